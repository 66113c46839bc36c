import PyProof.Rows.All
import Wide.All
import OpenK.AllK
import Wide.FinOn
import HandS.ForMost
import HandS.Exc
import HandS.ExcOwn
import HandS.TryOnly
import HandS.WordsExc
import HandS.Defaults
import HandS.HeadHook1
import HandS.HeadHook2
import HandS.TupAny
import HandS.Flow
import HandS.Style
import HandS.IsInst
import HandS.Deep
import HandS.SortInts
import HandS.CallLocal
import HandS.NoneIn
import HandS.Zip
import HandS.More
import KE.KStateDown
import Lean
import HandS.Codes
import HandS.Head0
import HandS.Head1
import HandS.Head2
import HandS.HeadEnd
import PySem.Challenge.RW_ownbeat_k63_whole_there_and_back
set_option Elab.async false
set_option linter.all false
set_option maxRecDepth 100000
set_option maxHeartbeats 0
namespace Pv
open PySem PySem.Spec PyProof.Rows L2

/-! ## values without the heap -/
inductive D where
  | non | bl (b : Bool) | int (i : Int) | str (s : List Nat) | scr (xs : List D) | lst (xs : List D) | tup (xs : List D) | dic (t : Bool) (kvs : List (D × D)) | exn (c : Str) (x : D) | fn (x : Str) | raw (a : Addr)
abbrev sv (s : List Nat) : Str := ⟨s.toArray⟩
theorem sv_len (s : List Nat) : (sv s).length = s.length := by
  show s.toArray.size = _
  simp
theorem sv_add (a b : List Nat) : sv a ++ sv b = sv (a ++ b) := by
  show (⟨a.toArray ++ b.toArray⟩ : Str) = ⟨(a ++ b).toArray⟩
  simp
theorem sv_inj {a b : List Nat} (h : sv a = sv b) : a = b := by
  have h1 : a.toArray = b.toArray := Str.mk.inj h
  simpa using congrArg Array.toList h1
theorem sv_to (x : Str) : sv x.cps.toList = x := by
  cases x; rfl
abbrev big : Nat := 16777216
theorem big_eq : sizeLine = big := sizeLine_eq

def flat : D → Bool
  | .non => true | .bl _ => true | .int _ => true | .str _ => true | .fn _ => true | .raw _ => true
  | _ => false
/-- a dict's key: an int, a text; a tuple of these -/
def keyD : Key → D
  | .inl i => .int i
  | .inr x => .str x.cps.toList

mutual
inductive Rep (K : PySem.W.Frag) (G : Hp) : V → D → Prop
  | non : Rep K G .non .non
  | bl (b : Bool) : Rep K G (.bl b) (.bl b)
  | int (i : Int) : Rep K G (.int i) (.int i)
  | str (s : List Nat) : Rep K G (.str (sv s)) (.str s)
  | fn (x : Str) : Rep K G (.ref (He.ga K x)) (.fn x)
  | raw (a : Addr) : Rep K G (.ref a) (.raw a)
  | scr {a : Addr} {xs : List V} {ds : List D} : (∀ H : Hp, (∀ o, Rd G a o → Rd H a o) → SqL K H a xs) → RepL K G xs ds → Rep K G (.ref a) (.scr ds)
  | lst {a : Addr} {xs : List V} {ds : List D} : Rd G a (.lst xs) → RepL K G xs ds → Rep K G (.ref a) (.lst ds)
  | tup {a : Addr} {xs : List V} {ds : List D} : G a = some (.tup xs) → RepL K G xs ds → Rep K G (.ref a) (.tup ds)
  | dicK {a : Addr} {ks : List Key} {xs : List V} {ds : List D} : ks.length = xs.length → Rd G a (.dK (ks.zip xs)) → RepL K G xs ds → Rep K G (.ref a) (.dic false ((ks.map keyD).zip ds))
  | dicT {a : Addr} {ks : List (List Key)} {xs : List V} {ds : List D} : ks.length = xs.length → Rd G a (.dT (ks.zip xs)) → RepL K G xs ds → Rep K G (.ref a) (.dic true ((ks.map fun k => D.tup (k.map keyD)).zip ds))
inductive RepL (K : PySem.W.Frag) (G : Hp) : List V → List D → Prop
  | nil : RepL K G [] []
  | cons {v : V} {vs : List V} {d : D} {ds : List D} : Rep K G v d → RepL K G vs ds → RepL K G (v :: vs) (d :: ds)
end

/-- what the frozen part says is to be read in the heap -/
def Sub (G H : Hp) : Prop := ∀ a o, G a = some o → H a = some o ∨ (((∃ kvs, o = .dK kvs) ∨ ∃ kvs, o = .dT kvs) ∧ ∃ ob, H a = some (.frz ob o))
def Le (G G' : Hp) : Prop := ∀ a o, G a = some o → G' a = some o
theorem Le.refl (G : Hp) : Le G G := fun _ _ h => h
theorem Le.trans {G G1 G2 : Hp} (a : Le G G1) (b : Le G1 G2) : Le G G2 := fun c o h => b c o (a c o h)
theorem Le.rd {G G' : Hp} (h : Le G G') {a : Addr} {o : HO} (r : Rd G a o) : Rd G' a o := by
  rcases r with r | ⟨ob, r⟩
  · exact .inl (h _ _ r)
  · exact .inr ⟨ob, h _ _ r⟩
section
variable {K : PySem.W.Frag} {G G' H : Hp}
mutual
theorem Rep.mono (h : Le G G') : ∀ {d : D} {v : V}, Rep K G v d → Rep K G' v d
  | _, _, .non => .non
  | _, _, .bl b => .bl b
  | _, _, .int i => .int i
  | _, _, .str s => .str s
  | _, _, .fn x => .fn x
  | _, _, .raw a => .raw a
  | _, _, .scr e r => .scr (fun H hH => e H fun o ho => hH o (h.rd ho)) (RepL.mono h r)
  | _, _, .lst e r => .lst (h.rd e) (RepL.mono h r)
  | _, _, .tup e r => .tup (h _ _ e) (RepL.mono h r)
  | _, _, .dicK l e r => .dicK l (h.rd e) (RepL.mono h r)
  | _, _, .dicT l e r => .dicT l (h.rd e) (RepL.mono h r)
theorem RepL.mono (h : Le G G') : ∀ {ds : List D} {vs : List V}, RepL K G vs ds → RepL K G' vs ds
  | _, _, .nil => .nil
  | _, _, .cons a b => .cons (Rep.mono h a) (RepL.mono h b)
end
theorem RepL.length : ∀ {vs : List V} {ds : List D}, RepL K G vs ds → vs.length = ds.length
  | _, _, .nil => rfl
  | _, _, .cons _ b => congrArg (· + 1) b.length
theorem RepL.append : ∀ {vs ws : List V} {ds es : List D}, RepL K G vs ds → RepL K G ws es → RepL K G (vs ++ ws) (ds ++ es)
  | _, _, _, _, .nil, b => b
  | _, _, _, _, .cons a r, b => .cons a (RepL.append r b)
theorem RepL.get : ∀ {vs : List V} {ds : List D} {i : Nat} {d : D}, RepL K G vs ds → ds[i]? = some d → ∃ v, vs[i]? = some v ∧ Rep K G v d
  | _, _, _, _, .nil, e => by simp at e
  | _, _, 0, _, .cons a _, e => by simp at e; subst e; exact ⟨_, rfl, a⟩
  | _, _, i + 1, d, .cons _ r, e => by
    obtain ⟨v, h1, h2⟩ := RepL.get (i := i) (d := d) r (by simpa using e)
    exact ⟨v, by simpa using h1, h2⟩
theorem RepL.getV : ∀ {vs : List V} {ds : List D} {i : Nat} {v : V}, RepL K G vs ds → vs[i]? = some v → ∃ d, ds[i]? = some d ∧ Rep K G v d
  | _, _, _, _, .nil, e => by simp at e
  | _, _, 0, _, .cons a _, e => by simp at e; subst e; exact ⟨_, rfl, a⟩
  | _, _, i + 1, d, .cons _ r, e => by
    obtain ⟨v, h1, h2⟩ := RepL.getV (i := i) (v := d) r (by simpa using e)
    exact ⟨v, by simpa using h1, h2⟩
theorem RepL.take : ∀ {vs : List V} {ds : List D} (n : Nat), RepL K G vs ds → RepL K G (vs.take n) (ds.take n)
  | _, _, 0, _ => .nil
  | _, _, _ + 1, .nil => .nil
  | _, _, n + 1, .cons a r => .cons a (RepL.take n r)
theorem RepL.drop : ∀ {vs : List V} {ds : List D} (n : Nat), RepL K G vs ds → RepL K G (vs.drop n) (ds.drop n)
  | _, _, 0, r => r
  | _, _, _ + 1, .nil => .nil
  | _, _, n + 1, .cons _ r => RepL.drop n r
theorem RepL.reverse : ∀ {vs : List V} {ds : List D}, RepL K G vs ds → RepL K G vs.reverse ds.reverse
  | _, _, .nil => .nil
  | _, _, .cons a r => by rw [List.reverse_cons, List.reverse_cons]; exact (RepL.reverse r).append (.cons a .nil)
theorem RepL.rep {vs : List V} {ds : List D} (h : RepL K G vs ds) : ∀ n : Nat, RepL K G (List.replicate n vs).flatten (List.replicate n ds).flatten
  | 0 => .nil
  | n + 1 => by rw [List.replicate_succ, List.replicate_succ, List.flatten_cons, List.flatten_cons]; exact h.append (RepL.rep h n)
/-- flat values say nothing of the heap -/
theorem Rep.flat {v : V} {d : D} (r : Rep K G v d) (f : flat d = true) : Rep K G' v d := by
  cases r with
  | non => exact .non
  | bl b => exact .bl b
  | int i => exact .int i
  | str s => exact .str s
  | fn x => exact .fn x
  | raw a => exact .raw a
  | _ => cases f
theorem Sub.rd (h : Sub G H) {a : Addr} {o : HO} (r : Rd G a o) : Rd H a o := by
  rcases r with r | ⟨ob, r⟩
  · rcases h _ _ r with q | ⟨_, ob, q⟩
    · exact .inl q
    · exact .inr ⟨ob, q⟩
  · rcases h _ _ r with q | ⟨z, _⟩
    · exact .inr ⟨ob, q⟩
    · rcases z with ⟨_, z⟩ | ⟨_, z⟩ <;> cases z
theorem Sub.tup (h : Sub G H) {a : Addr} {xs : List V} (r : G a = some (.tup xs)) : H a = some (.tup xs) := by
  rcases h _ _ r with q | ⟨z, _⟩
  · exact q
  · rcases z with ⟨_, z⟩ | ⟨_, z⟩ <;> cases z
theorem Sub.le (h : Sub G' H) (l : Le G G') : Sub G H := fun a o e => h a o (l a o e)
end

/-! ## what a def may still change -/
inductive OwnL (R : V → D → List Addr → Prop) : List V → List D → List Addr → Prop
  | nil : OwnL R [] [] []
  | cons {v : V} {vs : List V} {d : D} {ds : List D} {b bs : List Addr} : R v d b → OwnL R vs ds bs → OwnL R (v :: vs) (d :: ds) (b ++ bs)
/-- v is d, its containers at bs not known to anybody else, as far as depth k goes; below that all is frozen -/
def Own (K : PySem.W.Frag) (G H : Hp) : Nat → V → D → List Addr → Prop
  | 0, v, d, bs => Rep K G v d ∧ bs = []
  | k + 1, v, d, bs => (flat d = true ∧ Rep K G v d ∧ bs = []) ∨
    (∃ a xs ds cs, v = .ref a ∧ d = .lst ds ∧ H a = some (.lst xs) ∧ OwnL (Own K G H k) xs ds cs ∧ bs = a :: cs) ∨
    (∃ a xs ds cs, v = .ref a ∧ d = .tup ds ∧ H a = some (.tup xs) ∧ OwnL (Own K G H k) xs ds cs ∧ bs = a :: cs) ∨
    (∃ (a : Addr) (ks : List Key) (xs : List V) (ds : List D) (cs : List Addr), v = .ref a ∧ d = .dic false ((ks.map keyD).zip ds) ∧ ks.length = xs.length ∧ H a = some (.dK (ks.zip xs)) ∧ OwnL (Own K G H k) xs ds cs ∧ bs = a :: cs) ∨
    (∃ (a : Addr) (ks : List (List Key)) (xs : List V) (ds : List D) (cs : List Addr), v = .ref a ∧ d = .dic true ((ks.map fun k => D.tup (k.map keyD)).zip ds) ∧ ks.length = xs.length ∧ H a = some (.dT (ks.zip xs)) ∧ OwnL (Own K G H k) xs ds cs ∧ bs = a :: cs)
theorem OwnL.imp {R R' : V → D → List Addr → Prop} : ∀ {vs : List V} {ds : List D} {bs : List Addr}, OwnL R vs ds bs → (∀ v d b, (∀ a ∈ b, a ∈ bs) → R v d b → R' v d b) → OwnL R' vs ds bs
  | _, _, _, .nil, _ => .nil
  | _, _, _, .cons a r, f => .cons (f _ _ _ (fun _ h => List.mem_append_left _ h) a) (OwnL.imp r fun v d b hb => f v d b fun a h => List.mem_append_right _ (hb a h))
theorem OwnL.length {R : V → D → List Addr → Prop} : ∀ {vs : List V} {ds : List D} {bs : List Addr}, OwnL R vs ds bs → vs.length = ds.length
  | _, _, _, .nil => rfl
  | _, _, _, .cons _ r => congrArg (· + 1) r.length
section
variable {K : PySem.W.Frag} {G G' H H' : Hp}
theorem Own.keep : ∀ {k : Nat} {v : V} {d : D} {bs : List Addr}, Own K G H k v d bs → Le G G' → (∀ a ∈ bs, ∀ o, H a = some o → H' a = some o) → Own K G' H' k v d bs
  | 0, _, _, _, ⟨r, e⟩, h, _ => ⟨r.mono h, e⟩
  | k + 1, _, _, _, q, h, hk => by
    rcases q with ⟨f, r, e⟩ | ⟨a, xs, ds, cs, e1, e2, ha, r, e⟩ | ⟨a, xs, ds, cs, e1, e2, ha, r, e⟩ | ⟨a, ks, xs, ds, cs, e1, e2, l, ha, r, e⟩ | ⟨a, ks, xs, ds, cs, e1, e2, l, ha, r, e⟩
    · exact .inl ⟨f, r.mono h, e⟩
    · subst e
      exact .inr (.inl ⟨a, xs, ds, cs, e1, e2, hk a List.mem_cons_self _ ha, r.imp fun v d b hb o => Own.keep o h fun c hc => hk c (List.mem_cons_of_mem _ (hb c hc)), rfl⟩)
    · subst e
      exact .inr (.inr (.inl ⟨a, xs, ds, cs, e1, e2, hk a List.mem_cons_self _ ha, r.imp fun v d b hb o => Own.keep o h fun c hc => hk c (List.mem_cons_of_mem _ (hb c hc)), rfl⟩))
    · subst e
      exact .inr (.inr (.inr (.inl ⟨a, ks, xs, ds, cs, e1, e2, l, hk a List.mem_cons_self _ ha, r.imp fun v d b hb o => Own.keep o h fun c hc => hk c (List.mem_cons_of_mem _ (hb c hc)), rfl⟩)))
    · subst e
      exact .inr (.inr (.inr (.inr ⟨a, ks, xs, ds, cs, e1, e2, l, hk a List.mem_cons_self _ ha, r.imp fun v d b hb o => Own.keep o h fun c hc => hk c (List.mem_cons_of_mem _ (hb c hc)), rfl⟩)))
/-- the frozen part, made larger by the cells bs as they stand -/
def addG (G H : Hp) (bs : List Addr) : Hp := fun a => if a ∈ bs then H a else G a
theorem addG_in {bs : List Addr} {a : Addr} (h : a ∈ bs) : addG G H bs a = H a := if_pos h
theorem addG_out {bs : List Addr} {a : Addr} (h : a ∉ bs) : addG G H bs a = G a := if_neg h
theorem Le.addG {bs : List Addr} (h : ∀ a ∈ bs, G a = none) : Le G (addG G H bs) := fun a o e => by
  by_cases hb : a ∈ bs
  · rw [h a hb] at e; cases e
  · rw [addG_out hb]; exact e
theorem OwnL.rep {R : V → D → List Addr → Prop} : ∀ {vs : List V} {ds : List D} {bs : List Addr}, OwnL R vs ds bs → (∀ v d b, (∀ a ∈ b, a ∈ bs) → R v d b → Rep K G v d) → RepL K G vs ds
  | _, _, _, .nil, _ => .nil
  | _, _, _, .cons a r, f => .cons (f _ _ _ (fun _ h => List.mem_append_left _ h) a) (OwnL.rep r fun v d b hb => f v d b fun a h => List.mem_append_right _ (hb a h))
/-- frozen -/
theorem Own.rep : ∀ {k : Nat} {v : V} {d : D} {bs cs : List Addr}, Own K G H k v d bs → (∀ a ∈ cs, G a = none) → (∀ a ∈ bs, a ∈ cs) → Rep K (addG G H cs) v d
  | 0, _, _, _, _, ⟨r, _⟩, hn, _ => r.mono (.addG hn)
  | k + 1, _, _, _, _, q, hn, hb => by
    rcases q with ⟨f, r, e⟩ | ⟨a, xs, ds, cs', e1, e2, ha, r, e⟩ | ⟨a, xs, ds, cs', e1, e2, ha, r, e⟩ | ⟨a, ks, xs, ds, cs', e1, e2, l, ha, r, e⟩ | ⟨a, ks, xs, ds, cs', e1, e2, l, ha, r, e⟩
    · exact r.mono (.addG hn)
    · subst e1; subst e2; subst e
      exact .lst (.inl (by rw [addG_in (hb a List.mem_cons_self)]; exact ha)) (r.rep fun v d b hb' o => Own.rep o hn fun c hc => hb c (List.mem_cons_of_mem _ (hb' c hc)))
    · subst e1; subst e2; subst e
      exact .tup (by rw [addG_in (hb a List.mem_cons_self)]; exact ha) (r.rep fun v d b hb' o => Own.rep o hn fun c hc => hb c (List.mem_cons_of_mem _ (hb' c hc)))
    · subst e1; subst e2; subst e
      exact .dicK l (.inl (by rw [addG_in (hb a List.mem_cons_self)]; exact ha)) (r.rep fun v d b hb' o => Own.rep o hn fun c hc => hb c (List.mem_cons_of_mem _ (hb' c hc)))
    · subst e1; subst e2; subst e
      exact .dicT l (.inl (by rw [addG_in (hb a List.mem_cons_self)]; exact ha)) (r.rep fun v d b hb' o => Own.rep o hn fun c hc => hb c (List.mem_cons_of_mem _ (hb' c hc)))
theorem OwnL.there {R : V → D → List Addr → Prop} : ∀ {vs : List V} {ds : List D} {bs : List Addr}, OwnL R vs ds bs → (∀ v d b, R v d b → ∀ a ∈ b, H a ≠ none) → ∀ a ∈ bs, H a ≠ none
  | _, _, _, .nil, _, _, h => nomatch h
  | _, _, _, .cons a r, f, c, h => (List.mem_append.mp h).elim (f _ _ _ a c) (OwnL.there r f c)
theorem Own.there : ∀ {k : Nat} {v : V} {d : D} {bs : List Addr}, Own K G H k v d bs → ∀ a ∈ bs, H a ≠ none
  | 0, _, _, _, ⟨_, e⟩, a, h => by rw [e] at h; cases h
  | k + 1, _, _, _, q, a, h => by
    rcases q with ⟨f, r, e⟩ | ⟨b, xs, ds, cs, e1, e2, ha, r, e⟩ | ⟨b, xs, ds, cs, e1, e2, ha, r, e⟩ | ⟨b, ks, xs, ds, cs, e1, e2, l, ha, r, e⟩ | ⟨b, ks, xs, ds, cs, e1, e2, l, ha, r, e⟩
    · rw [e] at h; cases h
    all_goals
      subst e
      rcases List.mem_cons.mp h with z | z
      · subst z; rw [ha]; exact fun z => nomatch z
      · exact r.there (fun v d b o => Own.there o) a z
theorem Own.flat : ∀ {k : Nat} {v : V} {d : D} {bs : List Addr}, Own K G H k v d bs → flat d = true → Rep K G' v d ∧ bs = []
  | 0, _, _, _, ⟨r, e⟩, f => ⟨r.flat f, e⟩
  | k + 1, _, _, _, q, f => by
    rcases q with ⟨_, r, e⟩ | ⟨b, xs, ds, cs, e1, e2, _⟩ | ⟨b, xs, ds, cs, e1, e2, _⟩ | ⟨b, ks, xs, ds, cs, e1, e2, _⟩ | ⟨b, ks, xs, ds, cs, e1, e2, _⟩
    · exact ⟨r.flat f, e⟩
    all_goals (subst e2; cases f)
theorem Own.of_flat {k : Nat} {v : V} {d : D} (r : Rep K G v d) (f : Pv.flat d = true) : Own K G H k v d [] := by
  cases k with
  | zero => exact ⟨r, rfl⟩
  | succ k => exact .inl ⟨f, r, rfl⟩
end
end Pv
namespace Pv
open PySem PySem.Spec PyProof.Rows L2
/-! ## environments -/
abbrev Slot := Option (D × Nat)
abbrev Ev := List Slot
inductive Res (α : Type) where
  | ok (a : α) (e : Ev)
  | exc (x : D) (e : Ev)
  | bad
def Res.bind {α β : Type} (r : Res α) (g : α → Ev → Res β) : Res β := match r with
  | .ok a e => g a e
  | .exc x e => .exc x e
  | .bad => .bad
abbrev Fo := Nat → List Addr
def setf (f : Fo) (i : Nat) (b : List Addr) : Fo := fun j => if j = i then b else f j
theorem setf_at {f : Fo} {i : Nat} {b : List Addr} : setf f i b i = b := if_pos rfl
theorem setf_ne {f : Fo} {i j : Nat} {b : List Addr} (h : j ≠ i) : setf f i b j = f j := if_neg h

structure Rel (K : PySem.W.Frag) (G : Hp) (env : Ev) (σ : L2.St) (H : Hp) (f : Fo) : Prop where
  len : env.length = σ.length
  slot : ∀ i d k, env[i]? = some (some (d, k)) → ∃ v, σ[i]? = some (some v) ∧ Own K G H k v d (f i)
  nd : ∀ i, (f i).Nodup
  dj : ∀ i j a, a ∈ f i → a ∈ f j → i = j
  gn : ∀ i a, a ∈ f i → G a = none
  ht : ∀ i a, a ∈ f i → H a ≠ none
  sub : Sub G H
structure Step (f : Fo) (G H : Hp) (f' : Fo) (bs : List Addr) (G' H' : Hp) : Prop where
  keep : ∀ a o, H a = some o → (∀ i, a ∉ f i) → H' a = some o
  grow : Le G G'
  newA : ∀ i a, a ∈ f' i → (∃ j, a ∈ f j) ∨ H a = none
  newB : ∀ a ∈ bs, (∃ j, a ∈ f j) ∨ H a = none
  newG : ∀ a, G' a ≠ none → G a ≠ none ∨ (∃ j, a ∈ f j) ∨ H a = none
  there : ∀ a, H a ≠ none → H' a ≠ none
/-- a value that the code holds -/
structure Tmp (K : PySem.W.Frag) (G H : Hp) (f : Fo) (k : Nat) (v : V) (d : D) (bs : List Addr) : Prop where
  own : Own K G H k v d bs
  nd : bs.Nodup
  gn : ∀ a ∈ bs, G a = none
  ap : ∀ a ∈ bs, ∀ i, a ∉ f i
/-- only new objects -/
structure New (G H G' H' : Hp) (bs : List Addr) : Prop where
  keep : ∀ a o, H a = some o → H' a = some o
  grow : Le G G'
  newB : ∀ a ∈ bs, H a = none
  gB : ∀ a ∈ bs, G' a = none
  newG : ∀ a, G' a ≠ none → G a ≠ none ∨ H a = none
  sub : Sub G' H'
  nd : bs.Nodup

section
variable {K : PySem.W.Frag} {G G1 G2 G' H H1 H2 H' : Hp} {f f1 f2 f' : Fo} {bs bs1 bs2 : List Addr} {env : Ev} {σ : L2.St} {k k1 : Nat} {v v1 : V} {d d1 : D}
theorem Step.refl : Step f G H f [] G H := ⟨fun _ _ h _ => h, .refl _, fun i a h => .inl ⟨i, h⟩, fun _ h => (nomatch h), fun _ h => .inl h, fun _ h => h⟩
theorem Step.trans (a : Step f G H f1 bs1 G1 H1) (b : Step f1 G1 H1 f2 bs2 G2 H2) : Step f G H f2 (bs1 ++ bs2) G2 H2 := by
  have back : ∀ c, ((∃ j, c ∈ f1 j) ∨ H1 c = none) → (∃ j, c ∈ f j) ∨ H c = none := fun c h => by
    rcases h with ⟨j, h⟩ | h
    · exact a.newA j c h
    · refine .inr ?_
      cases q : H c with
      | none => rfl
      | some o => exact absurd h (a.there c (by rw [q]; exact fun z => (nomatch z)))
  refine ⟨fun c o h hf => ?_, a.grow.trans b.grow, fun i c h => back c (b.newA i c h), fun c h => ?_, fun c h => ?_, fun c h => b.there c (a.there c h)⟩
  · refine b.keep c o (a.keep c o h hf) fun i hi => ?_
    rcases a.newA i c hi with ⟨j, z⟩ | z
    · exact hf j z
    · rw [h] at z; cases z
  · rcases List.mem_append.mp h with z | z
    · exact a.newB c z
    · exact back c (b.newB c z)
  · rcases b.newG c h with z | z
    · exact a.newG c z
    · exact .inr (back c z)
theorem Step.lessB (a : Step f G H f1 bs1 G1 H1) (h : ∀ c ∈ bs2, c ∈ bs1) : Step f G H f1 bs2 G1 H1 := ⟨a.keep, a.grow, a.newA, fun c hc => a.newB c (h c hc), a.newG, a.there⟩
theorem Tmp.step (t : Tmp K G H f k v d bs) (s : Step f G H f1 bs1 G1 H1) : Tmp K G1 H1 f1 k v d bs ∧ ∀ a ∈ bs, a ∉ bs1 := by
  have th := t.own.there
  refine ⟨⟨t.own.keep s.grow fun a ha o h => s.keep a o h (t.ap a ha), t.nd, fun a ha => ?_, fun a ha i hi => ?_⟩, fun a ha hb => ?_⟩
  · cases q : G1 a with
    | none => rfl
    | some o =>
      rcases s.newG a (by rw [q]; exact fun z => (nomatch z)) with z | ⟨j, z⟩ | z
      · exact absurd (t.gn a ha) z
      · exact absurd z (t.ap a ha j)
      · exact absurd z (th a ha)
  · rcases s.newA i a hi with ⟨j, z⟩ | z
    · exact t.ap a ha j z
    · exact th a ha z
  · rcases s.newB a hb with ⟨j, z⟩ | z
    · exact t.ap a ha j z
    · exact th a ha z
theorem Step.new (n : New G H G' H' bs) : Step f G H f bs G' H' :=
  ⟨fun a o h _ => n.keep a o h, n.grow, fun i a h => .inl ⟨i, h⟩, fun a h => .inr (n.newB a h), fun a h => (n.newG a h).elim .inl fun z => .inr (.inr z), fun a h => by
    cases q : H a with
    | none => exact absurd q h
    | some o => rw [n.keep a o q]; exact fun z => (nomatch z)⟩
theorem Rel.new (r : Rel K G env σ H f) (n : New G H G' H' bs) : Rel K G' env σ H' f where
  len := r.len
  slot := fun i d k e => by
    obtain ⟨v, h1, h2⟩ := r.slot i d k e
    exact ⟨v, h1, h2.keep n.grow fun a _ o h => n.keep a o h⟩
  nd := r.nd
  dj := r.dj
  gn := fun i a h => by
    cases q : G' a with
    | none => rfl
    | some o =>
      rcases n.newG a (by rw [q]; exact fun z => (nomatch z)) with z | z
      · exact absurd (r.gn i a h) z
      · exact absurd z (r.ht i a h)
  ht := fun i a h => by
    cases q : H a with
    | none => exact absurd q (r.ht i a h)
    | some o => rw [n.keep a o q]; exact fun z => (nomatch z)
  sub := n.sub
theorem Tmp.new (r : Rel K G env σ H f) (n : New G H G' H' bs) (o : Own K G' H' k v d bs) : Tmp K G' H' f k v d bs :=
  ⟨o, n.nd, n.gB, fun a h i hi => r.ht i a hi (n.newB a h)⟩
theorem New.refl (s : Sub G H) : New G H G H [] := ⟨fun _ _ h => h, .refl _, fun _ h => (nomatch h), fun _ h => (nomatch h), fun _ h => .inl h, s, .nil⟩
theorem New.upd {p : Addr} {o : HO} (s : Sub G H) (hp : H p = none) : New G H G (upd H p o) [p] := by
  refine ⟨fun a u h => by rw [upd_ne (ne_of_none h hp)]; exact h, .refl _, fun a h => ?_, fun a h => ?_, fun _ h => .inl h, fun a u h => ?_, by simp⟩
  · have e : a = p := by simpa using h
    rw [e]; exact hp
  · have e : a = p := by simpa using h
    cases q : G a with
    | none => rfl
    | some u =>
      rcases s a u q with z | ⟨_, ob, z⟩ <;> (rw [e, hp] at z; cases z)
  · have hne : a ≠ p := by
      intro z; subst z
      rcases s a u h with z | ⟨_, ob, z⟩ <;> (rw [hp] at z; cases z)
    rw [upd_ne hne]; exact s a u h
/-- a temporary is frozen -/
theorem Rel.freeze (r : Rel K G env σ H f) (gn : ∀ a ∈ bs, G a = none) (ap : ∀ a ∈ bs, ∀ i, a ∉ f i) : Rel K (addG G H bs) env σ H f where
  len := r.len
  slot := fun i d k e => by
    obtain ⟨v, h1, h2⟩ := r.slot i d k e
    exact ⟨v, h1, h2.keep (.addG gn) fun a _ o h => h⟩
  nd := r.nd
  dj := r.dj
  gn := fun i a h => by rw [addG_out (fun z => ap a z i h)]; exact r.gn i a h
  ht := r.ht
  sub := fun a o h => by
    by_cases hb : a ∈ bs
    · rw [addG_in hb] at h; exact .inl h
    · rw [addG_out hb] at h; exact r.sub a o h
theorem Step.freeze (s : Step f G H f1 bs1 G1 H1) (gn : ∀ a ∈ bs, G1 a = none) (h : ∀ a ∈ bs, (∃ j, a ∈ f j) ∨ H a = none) : Step f G H f1 bs1 (addG G1 H1 bs) H1 :=
  ⟨s.keep, s.grow.trans (.addG gn), s.newA, s.newB, fun a q => by
    by_cases hb : a ∈ bs
    · exact .inr (h a hb)
    · rw [addG_out hb] at q; exact s.newG a q, s.there⟩
theorem Tmp.rep (t : Tmp K G H f k v d bs) : Rep K (addG G H bs) v d := t.own.rep t.gn fun _ h => h
theorem Tmp.of_rep (r : Rep K G v d) : Tmp K G H f 0 v d [] := ⟨⟨r, rfl⟩, .nil, fun _ h => (nomatch h), fun _ h => (nomatch h)⟩
theorem Tmp.of_flat (r : Rep K G v d) (h : flat d = true) : Tmp K G H f k v d [] := ⟨Own.of_flat r h, .nil, fun _ h => (nomatch h), fun _ h => (nomatch h)⟩
/-- a slot gets a value -/
theorem Rel.set {i : Nat} (r : Rel K G env σ H f) (t : Tmp K G H f k v d bs) : Rel K G (env.set i (some (d, k))) (σ.set i (some v)) H (setf f i bs) where
  len := by simpa using r.len
  slot := fun j e l h => by
    by_cases hj : j = i
    · subst hj
      have hlt : j < env.length := by
        rcases Nat.lt_or_ge j env.length with z | z
        · exact z
        · rw [List.getElem?_eq_none (by simpa using z)] at h; cases h
      rw [List.getElem?_set_self hlt] at h
      cases h
      rw [setf_at]
      exact ⟨v, by rw [List.getElem?_set_self (by rw [← r.len]; exact hlt)], t.own⟩
    · rw [List.getElem?_set_ne (Ne.symm hj)] at h
      rw [setf_ne hj, List.getElem?_set_ne (Ne.symm hj)]
      exact r.slot j e l h
  nd := fun j => by
    by_cases hj : j = i
    · subst hj; rw [setf_at]; exact t.nd
    · rw [setf_ne hj]; exact r.nd j
  dj := fun j l a h1 h2 => by
    by_cases hj : j = i
    · by_cases hl : l = i
      · rw [hj, hl]
      · subst hj
        rw [setf_at] at h1; rw [setf_ne hl] at h2
        exact absurd h2 (t.ap a h1 l)
    · by_cases hl : l = i
      · subst hl
        rw [setf_at] at h2; rw [setf_ne hj] at h1
        exact absurd h1 (t.ap a h2 j)
      · rw [setf_ne hj] at h1; rw [setf_ne hl] at h2
        exact r.dj j l a h1 h2
  gn := fun j a h => by
    by_cases hj : j = i
    · subst hj; rw [setf_at] at h; exact t.gn a h
    · rw [setf_ne hj] at h; exact r.gn j a h
  ht := fun j a h => by
    by_cases hj : j = i
    · subst hj; rw [setf_at] at h; exact t.own.there a h
    · rw [setf_ne hj] at h; exact r.ht j a h
  sub := r.sub
theorem Step.set {i : Nat} (s : Step f G H f1 bs G1 H1) (h : ∀ a ∈ bs2, a ∈ bs) : Step f G H (setf f1 i bs2) [] G1 H1 :=
  ⟨s.keep, s.grow, fun j a q => by
    by_cases hj : j = i
    · subst hj; rw [setf_at] at q; exact s.newB a (h a q)
    · rw [setf_ne hj] at q; exact s.newA j a q, fun _ z => (nomatch z), s.newG, s.there⟩
/-- a slot is given up -/
theorem Rel.kill {i : Nat} (r : Rel K G env σ H f) : Rel K G (env.set i none) σ H (setf f i []) where
  len := by simpa using r.len
  slot := fun j e l h => by
    by_cases hj : j = i
    · subst hj
      by_cases hlt : j < env.length
      · rw [List.getElem?_set_self hlt] at h; cases h
      · rw [List.getElem?_eq_none (by simpa using hlt)] at h; cases h
    · rw [List.getElem?_set_ne (Ne.symm hj)] at h
      rw [setf_ne hj]
      exact r.slot j e l h
  nd := fun j => by
    by_cases hj : j = i
    · subst hj; rw [setf_at]; exact .nil
    · rw [setf_ne hj]; exact r.nd j
  dj := fun j l a h1 h2 => by
    by_cases hj : j = i
    · subst hj; rw [setf_at] at h1; cases h1
    · by_cases hl : l = i
      · subst hl; rw [setf_at] at h2; cases h2
      · rw [setf_ne hj] at h1; rw [setf_ne hl] at h2
        exact r.dj j l a h1 h2
  gn := fun j a h => by
    by_cases hj : j = i
    · subst hj; rw [setf_at] at h; cases h
    · rw [setf_ne hj] at h; exact r.gn j a h
  ht := fun j a h => by
    by_cases hj : j = i
    · subst hj; rw [setf_at] at h; cases h
    · rw [setf_ne hj] at h; exact r.ht j a h
  sub := r.sub
theorem Step.kill {i : Nat} (s : Step f G H f1 bs G1 H1) : Step f G H (setf f1 i []) bs G1 H1 :=
  ⟨s.keep, s.grow, fun j a q => by
    by_cases hj : j = i
    · subst hj; rw [setf_at] at q; cases q
    · rw [setf_ne hj] at q; exact s.newA j a q, s.newB, s.newG, s.there⟩
/-- a slot's own containers, as a temporary -/
theorem Rel.take {i : Nat} (r : Rel K G env σ H f) (e : env[i]? = some (some (d, k))) : ∃ v, σ[i]? = some (some v) ∧ Tmp K G H (setf f i []) k v d (f i) := by
  obtain ⟨v, h1, h2⟩ := r.slot i d k e
  refine ⟨v, h1, h2, r.nd i, fun a h => r.gn i a h, fun a h j hj => ?_⟩
  by_cases q : j = i
  · subst q; rw [setf_at] at hj; cases hj
  · rw [setf_ne q] at hj; exact q (r.dj j i a hj h)
theorem Step.take {i : Nat} : Step f G H (setf f i []) (f i) G H :=
  ⟨fun _ _ h _ => h, .refl _, fun j a q => by
    by_cases hj : j = i
    · subst hj; rw [setf_at] at q; cases q
    · rw [setf_ne hj] at q; exact .inl ⟨j, q⟩, fun a h => .inl ⟨i, h⟩, fun _ h => .inl h, fun _ h => h⟩
/-- a slot is frozen -/
theorem Rel.frz {i : Nat} (r : Rel K G env σ H f) (e : env[i]? = some (some (d, k))) : Rel K (addG G H (f i)) (env.set i (some (d, 0))) σ H (setf f i []) := by
  obtain ⟨v, h1, t⟩ := r.take e
  have r1 := (r.kill (i := i)).freeze t.gn t.ap
  have r2 := r1.set (i := i) (Tmp.of_rep (f := setf f i []) t.rep)
  have hlt : i < σ.length := (List.getElem?_eq_some_iff.mp h1).1
  have e1 : σ.set i (some v) = σ := by
    apply List.ext_getElem?
    intro j
    by_cases hj : i = j
    · subst hj; rw [List.getElem?_set_self hlt, h1]
    · rw [List.getElem?_set_ne hj]
  have e2 : setf (setf f i []) i [] = setf f i [] := by
    funext j
    unfold setf
    split <;> rfl
  rw [e1, e2, List.set_set] at r2
  exact r2
theorem Step.frz {i : Nat} (gn : ∀ a ∈ f i, G a = none) : Step f G H (setf f i []) [] (addG G H (f i)) H :=
  ((Step.take (f := f) (G := G) (H := H) (i := i)).freeze gn fun a h => .inl ⟨i, h⟩).lessB fun _ h => nomatch h
/-- as many as one likes -/
inductive OwnP (K : PySem.W.Frag) (G H : Hp) : List V → List (D × Nat) → List Addr → Prop
  | nil : OwnP K G H [] [] []
  | cons {v : V} {vs : List V} {d : D} {k : Nat} {ps : List (D × Nat)} {b bs : List Addr} : Own K G H k v d b → OwnP K G H vs ps bs → OwnP K G H (v :: vs) ((d, k) :: ps) (b ++ bs)
structure TmpL (K : PySem.W.Frag) (G H : Hp) (f : Fo) (vs : List V) (ps : List (D × Nat)) (bs : List Addr) : Prop where
  own : OwnP K G H vs ps bs
  nd : bs.Nodup
  gn : ∀ a ∈ bs, G a = none
  ap : ∀ a ∈ bs, ∀ i, a ∉ f i
theorem OwnP.keep : ∀ {vs : List V} {ps : List (D × Nat)} {bs : List Addr}, OwnP K G H vs ps bs → Le G G' → (∀ a ∈ bs, ∀ o, H a = some o → H' a = some o) → OwnP K G' H' vs ps bs
  | _, _, _, .nil, _, _ => .nil
  | _, _, _, .cons a r, h, hk => .cons (a.keep h fun c hc => hk c (List.mem_append_left _ hc)) (r.keep h fun c hc => hk c (List.mem_append_right _ hc))
theorem OwnP.there : ∀ {vs : List V} {ps : List (D × Nat)} {bs : List Addr}, OwnP K G H vs ps bs → ∀ a ∈ bs, H a ≠ none
  | _, _, _, .nil, _, h => nomatch h
  | _, _, _, .cons o r, a, h => (List.mem_append.mp h).elim (o.there a) (r.there a)
theorem OwnP.rep : ∀ {vs : List V} {ps : List (D × Nat)} {bs cs : List Addr}, OwnP K G H vs ps bs → (∀ a ∈ cs, G a = none) → (∀ a ∈ bs, a ∈ cs) → RepL K (addG G H cs) vs (ps.map (·.1))
  | _, _, _, _, .nil, _, _ => .nil
  | _, _, _, _, .cons o r, hn, hb => .cons (o.rep hn fun a h => hb a (List.mem_append_left _ h)) (r.rep hn fun a h => hb a (List.mem_append_right _ h))
theorem OwnP.length : ∀ {vs : List V} {ps : List (D × Nat)} {bs : List Addr}, OwnP K G H vs ps bs → vs.length = ps.length
  | _, _, _, .nil => rfl
  | _, _, _, .cons _ r => congrArg (· + 1) r.length
theorem TmpL.nil : TmpL K G H f [] [] [] := ⟨.nil, .nil, fun _ h => (nomatch h), fun _ h => (nomatch h)⟩
theorem TmpL.cons {vs : List V} {ps : List (D × Nat)} (t : Tmp K G H f k v d bs1) (r : TmpL K G H f vs ps bs2) (h : ∀ a ∈ bs1, a ∉ bs2) : TmpL K G H f (v :: vs) ((d, k) :: ps) (bs1 ++ bs2) :=
  ⟨.cons t.own r.own, List.nodup_append.mpr ⟨t.nd, r.nd, fun a ha b hb e => h a ha (e ▸ hb)⟩, fun a ha => (List.mem_append.mp ha).elim (t.gn a) (r.gn a), fun a ha => (List.mem_append.mp ha).elim (t.ap a) (r.ap a)⟩
theorem TmpL.rep {vs : List V} {ps : List (D × Nat)} (t : TmpL K G H f vs ps bs) : RepL K (addG G H bs) vs (ps.map (·.1)) := t.own.rep t.gn fun _ h => h
theorem Tmp.list (t : Tmp K G H f k v d bs) : TmpL K G H f [v] [(d, k)] bs := by
  have := TmpL.cons t (TmpL.nil (K := K) (G := G) (H := H) (f := f)) (fun _ _ h => (nomatch h))
  rwa [List.append_nil] at this
end
end Pv
namespace Pv
open PySem PySem.Spec PyProof.Rows L2
/-! ## what the operations tell -/
abbrev OR := Option (D × Nat)
mutual
def py : D → PyData
  | .non => .none | .bl b => .bool b | .int i => .int i | .str s => .str (sv s)
  | .lst xs => .list (pyL xs) | .tup xs => .tuple (pyL xs) | .scr _ => .dict [] | .raw _ => .dict [] | .dic _ _ => .dict [] | .exn _ _ => .dict [] | .fn _ => .dict []
def pyL : List D → List PyData
  | [] => []
  | d :: ds => py d :: pyL ds
end
mutual
def plain : D → Bool
  | .non => true | .bl _ => true | .int _ => true | .str _ => true
  | .lst xs => plainL xs | .tup xs => plainL xs | .scr _ => false | .raw _ => false | .dic _ _ => false | .exn _ _ => false | .fn _ => false
def plainL : List D → Bool
  | [] => true
  | d :: ds => plain d && plainL ds
end
def shp (d : D) : Bool := plain d && SeqAt.shaped (py d)
def oEq (a b : D) : Option Bool := match a, b with
  | .str x, .str y => some (decide (x = y))
  | a, b => if shp a && shp b then some (PyData.eqv (py a) (py b)) else none
def flatE : D → Bool
  | .non => true | .bl _ => true | .int _ => true | .str _ => true | _ => false
/-- keys -/
def kq1 : D → D → Bool
  | .int a, .int b => decide (a = b)
  | .str a, .str b => decide (a = b)
  | _, _ => false
def kqL : List D → List D → Bool
  | [], [] => true
  | a :: as, b :: bs => kq1 a b && kqL as bs
  | _, _ => false
def kq : D → D → Bool
  | .tup a, .tup b => kqL a b
  | a, b => kq1 a b
def keyOk1 : D → Bool
  | .int _ => true | .str _ => true | _ => false
def keyOk : Bool → D → Bool
  | true, .tup a => a.all keyOk1
  | true, _ => false
  | false, a => keyOk1 a
def dGet (kvs : List (D × D)) (k : D) : Option D := (kvs.find? fun p => kq p.1 k).map (·.2)
def dPut (kvs : List (D × D)) (k v : D) : List (D × D) := if kvs.any fun p => kq p.1 k then kvs.map fun p => if kq p.1 k then (p.1, v) else p else kvs ++ [(k, v)]

def truth : D → Option Bool
  | .non => some false
  | .bl b => some b
  | .int i => some (decide (i ≠ 0))
  | .str s => if s.length ≤ big then some (!s.isEmpty) else none
  | .lst xs => some (!xs.isEmpty)
  | .tup xs => some (!xs.isEmpty)
  | _ => none

inductive BOp where | add | sub | mul | fdiv | mod | pow | shl | shr | band
  deriving DecidableEq
inductive COp where | eq | ne | lt | le | gt | ge | inn | nin
  deriving DecidableEq
inductive B1 where | len | abs | int | str | list | sorted | sum | max | min | tuple
  deriving DecidableEq
inductive B2 where | max | min
  deriving DecidableEq
inductive M0 where | dummy
  deriving DecidableEq
inductive M1 where | join | count | startswith | partition | split | strip | index | get
  deriving DecidableEq
def oBin : BOp → D → D → OR
  | .add, .int i, .int j => some (.int (i + j), 0)
  | .add, .str a, .str b => if a.length + b.length ≤ big then some (.str (a ++ b), 0) else none
  | .add, .lst a, .lst b => if a.length + b.length ≤ big then some (.lst (a ++ b), 1) else none
  | .add, .tup a, .tup b => if a.length + b.length ≤ big then some (.tup (a ++ b), 0) else none
  | .sub, .int i, .int j => some (.int (i - j), 0)
  | .mul, .int i, .int j => if (-(2 ^ 64) < i ∧ i < 2 ^ 64) ∨ (-(2 ^ 64) < j ∧ j < 2 ^ 64) then some (.int (i * j), 0) else none
  | .mul, .lst a, .int j => if j < 2 ^ 62 ∧ -(2 ^ 62) < j ∧ a.length * j.toNat ≤ big then some (.lst (List.replicate j.toNat a).flatten, 1) else none
  | .mul, .str a, .int j => if j < 2 ^ 62 ∧ -(2 ^ 62) < j ∧ a.length * j.toNat ≤ big then some (.str (List.replicate j.toNat a).flatten, 0) else none
  | .fdiv, .int i, .int j => if 0 < j ∧ j < 1073741824 then some (.int (i / j), 0) else none
  | .mod, .int i, .int j => if 0 < j then some (.int (i % j), 0) else none
  | .pow, .int i, .int j => if 0 ≤ j ∧ j ≤ 1000000 ∧ i.natAbs < 2 ^ 64 then some (.int (i ^ j.toNat), 0) else none
  | .shl, .int i, .int j => if 0 ≤ j ∧ j ≤ 1000000 ∧ i.natAbs < 2 ^ 64 then some (.int (i * 2 ^ j.toNat), 0) else none
  | .shr, .int i, .int j => if 0 ≤ j then some (.int (i / 2 ^ j.toNat), 0) else none
  | .band, .int i, .int j => some (.int (Builtin.bitAnd i j), 0)
  | _, _, _ => none
def oIn (x : D) : D → Option Bool
  | .lst ds => if shp x && shp (.lst ds) then some (ds.any fun z => PyData.eqv (py z) (py x)) else none
  | .tup ds => if flatE x && ds.all flatE then some (ds.any fun z => PyData.eqv (py z) (py x)) else none
  | .str s => (match x with
    | .str [c] => some (decide (c ∈ s))
    | _ => none)
  | .dic t kvs => if keyOk t x then some (dGet kvs x).isSome else none
  | _ => none
def oCmp : COp → D → D → Option Bool
  | .eq, a, b => oEq a b
  | .ne, a, b => (oEq a b).map (!·)
  | .lt, .int i, .int j => some (decide (i < j))
  | .le, .int i, .int j => some (decide (i ≤ j))
  | .gt, .int i, .int j => some (decide (j < i))
  | .ge, .int i, .int j => some (decide (j ≤ i))
  | .inn, a, b => oIn a b
  | .nin, a, b => (oIn a b).map (!·)
  | _, _, _ => none
def oIx : D → D → OR
  | .lst ds, .int i => (atI ds i).map (·, 0)
  | .scr ds, .int i => (atI ds i).map (·, 0)
  | .tup ds, .int i => (atI ds i).map (·, 0)
  | .str s, .int i => if s.length ≤ big then (atI s i).map fun c => (.str [c], 0) else none
  | .dic t kvs, k => if keyOk t k then (dGet kvs k).map (·, 0) else none
  | _, _ => none
def cutD {α : Type} (xs : List α) (lo hi : Option Int) : List α := (xs.drop (HT.sIx xs.length 0 lo)).take (HT.sIx xs.length xs.length hi - HT.sIx xs.length 0 lo)
def oSlc : D → Option Int → Option Int → OR
  | .lst ds, lo, hi => some (.lst (cutD ds lo hi), 1)
  | .scr ds, lo, hi => some (.lst (cutD ds lo hi), 1)
  | .str s, lo, hi => if s.length ≤ big then some (.str (cutD s lo hi), 0) else none
  | .tup ds, lo, hi => some (.tup (cutD ds lo hi), 0)
  | _, _, _ => none
def intsOf : List D → Option (List Int)
  | [] => some []
  | .int i :: r => (intsOf r).map (i :: ·)
  | _ => none
def insI (i : Int) : List Int → List Int
  | [] => [i]
  | j :: r => if i ≤ j then i :: j :: r else j :: insI i r
def sortI : List Int → List Int
  | [] => []
  | i :: r => insI i (sortI r)
def maxI : List Int → Option Int
  | [] => none
  | i :: r => some (r.foldl max i)
def minI : List Int → Option Int
  | [] => none
  | i :: r => some (r.foldl min i)
def strsOf : List D → Option (List (List Nat))
  | [] => some []
  | .str s :: r => (strsOf r).map (s :: ·)
  | _ => none
/-- an int's digits -/
def textOf (i : Int) : List Nat := (Str.ofString (toString i)).cps.toList
def oMk : M1 → Str → D → OR
  | .count, k, .str a => some (.int (Txt.count (sv a) k), 0)
  | .startswith, k, .str a => some (.bl (Txt.startswith (sv a) k), 0)
  | .split, k, .str a => if (k.length == 0) = false ∧ a.length + 2 ≤ big then some (.lst ((Txt.split (sv a) k).map fun x => .str x.cps.toList), 1) else none
  | .partition, k, .str a => if (k.length == 0) = false ∧ a.length ≤ big then some (.tup [.str (Txt.partition (sv a) k).1.cps.toList, .str (Txt.partition (sv a) k).2.1.cps.toList, .str (Txt.partition (sv a) k).2.2.cps.toList], 1) else none
  | _, _, _ => none
def oCk : M1 → Str → D → OR
  | .join, k, .lst ds => (strsOf ds).bind fun ys => if (ys.map List.length).sum + ys.length * k.length ≤ big then some (.str (Txt.join k (ys.map sv)).cps.toList, 0) else none
  | _, _, _ => none
def oB1 : B1 → D → OR
  | .len, .lst ds => some (.int ds.length, 0)
  | .len, .scr ds => some (.int ds.length, 0)
  | .len, .tup ds => some (.int ds.length, 0)
  | .len, .str s => if s.length ≤ big then some (.int s.length, 0) else none
  | .abs, .int i => some (.int (if i < 0 then -i else i), 0)
  | .int, .int i => some (.int i, 0)
  | .int, .bl b => some (.int (if b then 1 else 0), 0)
  | .int, .str s => (PySem.intText? (sv s)).bind fun n => if s.length ≤ 640 then some (.int n, 0) else none
  | .str, .int i => if i.natAbs.log2 < 1920 then some (.str (textOf i), 0) else none
  | .list, .lst ds => some (.lst ds, 1)
  | .list, .tup ds => some (.lst ds, 1)
  | .sorted, .lst ds => (intsOf ds).map fun ns => (.lst ((sortI ns).map .int), 1)
  | .sum, .lst ds => (intsOf ds).map fun ns => (.int ns.sum, 0)
  | .max, .lst ds => (intsOf ds).bind fun ns => (maxI ns).map fun m => (.int m, 0)
  | .min, .lst ds => (intsOf ds).bind fun ns => (minI ns).map fun m => (.int m, 0)
  | _, _ => none
def oB2 : B2 → D → D → OR
  | .max, .int i, .int j => some (.int (if j > i then j else i), 0)
  | .min, .int i, .int j => some (.int (if j < i then j else i), 0)
  | _, _, _ => none
/-- the name of a value's type -/
def tyName : D → Option String
  | .non => some "NoneType" | .bl _ => some "bool" | .int _ => some "int" | .str _ => some "str" | .lst _ => some "list" | .tup _ => some "tuple" | .dic false _ => some "dict" | _ => none
/-- isinstance of a built-in class -/
def isTy (t : String) (c : String) : Bool := t == c || (t == "bool" && c == "int")
def tyOk (c : String) : Bool := ["bool", "int", "str", "list", "tuple", "dict"].contains c
def cD : Const → Option D
  | .none => some .non
  | .bool b => some (.bl b)
  | .int i => some (.int i)
  | .str s => some (.str s.cps.toList)
  | _ => none

/-! ## the small form -/
inductive Op where
  | bin (b : BOp) | neg | cmp (c : COp) | isn (neg : Bool) (c : Const) | ix | b1 (b : B1) | b2 (b : B2) | isin (c : String) | mk (m : M1) (k : Str) | ck (m : M1) (k : Str)
inductive T where
  | nm (i : Nat) | tp (l : T) | nil | cons (a b : T)
inductive Mt where | append | extend | insert | pop | popAt | clear | reverse
  deriving DecidableEq
/-- a place's number -/
inductive Pe where | k (j : Int) | v (i : Nat)
mutual
inductive E where
  | var (i : Nat) | frz (i : Nat) | mv (i : Nat) | lend (is : List Nat) (e : E)
  | cst (c : Const) | glb (x : Str) (c : Const) | fnv (x : Str)
  | op (o : Op) (es : Es)
  | and (a b : E) | or (a b : E) | not (a : E)
  | chn (c1 c2 : COp) (a b c : E)
  | lst (n : Nat) (es : Es) | tup (n : Nat) (es : Es)
  | slc (a : E) (lo hi : OE) | rev (a : E)
  | chn3 (c1 c2 c3 : COp) (a b c d : E)
  | callv (i : Nat) (cs : List (Str × Nat)) (es : Es)
  | call (j : Nat) (es : Es) | cio (j : Nat) (is : List Nat) (es : Es) | cit (j : Nat) (e : E) (es : Es)
  | comp (n : Nat) (own : List Nat) (t : T) (it : I) (c : OE) (e : E)
  | idx (i : Nat) (e : E)
  | mut (i : Nat) (m : Mt) (es : Es)
  | pth (i : Nat) (ps : List Pe)
  | mutp (i : Nat) (ps : List Pe) (m : Mt) (es : Es)
inductive Es where | nil | cons (a : E) (r : Es)
inductive OE where | no | so (e : E)
inductive I where
  | ex (e : E) | rng1 (a : E) | rng2 (a b : E) | rng3 (a b c : E) | enum (a : E) | zip (a b : E) | glt (x : Str) (ds : List Const)
end
inductive S where
  | nil | one (a r : S) | kill (is : List Nat) (r : S) | frz (is : List Nat) (r : S) | blk (n : Nat) (is ks fx : List Nat) (b r : S)
  | set (i : Nat) (e : E) | unp (t : T) (e : E) | inc (i : Nat) (e : E)
  | ifs (c : E) (a b : S) | whl (n : Nat) (c : E) (b : S) | fr (t : T) (it : I) (b : S)
  | ret (e : E) | ex (e : E) | setix (i : Nat) (ix : E) (e : E) | setp (i : Nat) (ps : List Pe) (ix : Pe) (e : E)
  | brk | cnt | pass | rse

/-! ## its meaning -/
inductive FR where
  | ok (d : D) (k : Nat) (outs : List (D × Nat))
  | exc (x : D) (outs : List (D × Nat))
  | bad
structure Fn where
  io : Nat
  F : List (D × Nat) → FR
instance : Inhabited Fn := ⟨⟨0, fun _ => .bad⟩⟩
inductive Fl where | nx | brk | cnt | ret (d : D) (k : Nat)
def OR.res (o : OR) (e : Ev) : Res (D × Nat) := match o with
  | some p => .ok p e
  | none => .bad
def OBr (o : Option Bool) (e : Ev) : Res (D × Nat) := match o with
  | some b => .ok (.bl b, 0) e
  | none => .bad
def OBt (o : Option Bool) (e : Ev) : Res Bool := match o with
  | some b => .ok b e
  | none => .bad
def okd (n : Nat) (p : D × Nat) : Bool := n == 0 || p.2 == n || flat p.1
def isC : Const → D → Option Bool
  | .none, .non => some true
  | .none, _ => some false
  | .bool b, .bl c => some (decide (c = b))
  | _, _ => none
def opSem : Op → List D → OR
  | .bin b, [x, y] => oBin b x y
  | .neg, [.int i] => some (.int (-i), 0)
  | .cmp c, [x, y] => (oCmp c x y).map fun b => (.bl b, 0)
  | .isn neg c, [x] => (isC c x).map fun b => (.bl (if neg then !b else b), 0)
  | .ix, [x, y] => oIx x y
  | .b1 b, [x] => oB1 b x
  | .b2 b, [x, y] => oB2 b x y
  | .mk m k, [x] => oMk m k x
  | .ck m k, [x] => oCk m k x
  | .isin c, [x] => (tyName x).bind fun t => if tyOk c then some (.bl (isTy t c), 0) else none
  | _, _ => none
mutual
def full : Nat → D → Bool
  | 0, d => flat d
  | k + 1, .lst ds => fullL k ds
  | k + 1, .tup ds => fullL k ds
  | _ + 1, d => flat d
def fullL : Nat → List D → Bool
  | _, [] => true
  | k, d :: ds => full k d && fullL k ds
end
mutual
def bindT : T → D → Nat → Ev → Option Ev
  | .nm i, d, k, env => if i < env.length then some (env.set i (some (d, k))) else none
  | .tp l, .tup ds, k, env => bindTs l ds (k - 1) env
  | .tp l, .lst ds, k, env => bindTs l ds (k - 1) env
  | .tp _, _, _, _ => none
  | .nil, _, _, _ => none
  | .cons _ _, _, _, _ => none
def bindTs : T → List D → Nat → Ev → Option Ev
  | .nil, [], _, env => some env
  | .cons a b, d :: ds, k, env => (bindT a d k env).bind (bindTs b ds k)
  | _, _, _, _ => none
end
/-- a target's slots -/
def tIdx : T → List Nat
  | .nm i => [i]
  | .tp l => tIdx l
  | .nil => []
  | .cons a b => tIdx a ++ tIdx b
def wipeE (own : List Nat) (env : Ev) : Ev := own.foldl (fun e i => e.set i none) env
def rst (own : List Nat) (env0 env : Ev) : Ev := own.foldl (fun e i => e.set i (env0[i]?.join)) env
/-- own names' slots hold nothing of one's own -/
def ownOk (own : List Nat) (env : Ev) : Bool := own.all fun i => match env[i]? with
  | some (some (_, k)) => k == 0
  | some none => true
  | none => false
def frzE (is : List Nat) (env : Ev) : Ev := is.foldl (fun e i => match e[i]? with
  | some (some (d, _)) => e.set i (some (d, 0))
  | _ => e) env
/-- the slots is lent, all other ones of one's own hidden -/
def lendE (is : List Nat) : Nat → Ev → Ev
  | _, [] => []
  | j, none :: r => none :: lendE is (j + 1) r
  | j, some (d, k) :: r => (if k = 0 then some (d, 0) else if is.contains j then some (d, 0) else none) :: lendE is (j + 1) r
def getSlots (env : Ev) : List Nat → Option (List (D × Nat))
  | [] => some []
  | i :: r => match env[i]? with
    | some (some p) => (getSlots env r).map (p :: ·)
    | _ => none
def putSlots : List Nat → List (D × Nat) → Ev → Ev
  | i :: r, p :: ps, env => putSlots r ps (env.set i (some p))
  | _, _, env => env
def nodupB : List Nat → Bool
  | [] => true
  | i :: r => !(r.contains i) && nodupB r
def rangeL (lo c : Int) (n : Nat) : List D := (List.range n).map fun (i : Nat) => D.int (lo + (i : Int) * c)
def consts : List Const → Option (List D)
  | [] => some []
  | c :: r => (cD c).bind fun d => (consts r).map (d :: ·)
def freeze1 (p : D × Nat) : D × Nat := (p.1, 0)
def retC (c : FR) (env : Ev) : Res (D × Nat) := match c with
  | .ok d k [] => .ok (d, k) env
  | .exc x [] => .exc x env
  | _ => .bad
def retN (c : FR) (env : Ev) : Res (D × Nat) := match c with
  | .ok d k [] => .ok (d, k) env
  | _ => .bad
/-- a list's methods: what they tell, what the list is then -/
def mutL : Mt → Nat → List D → List (D × Nat) → Option ((D × Nat) × List D)
  | .append, k, ds, [p] => if okd k p && decide (ds.length < big) then some ((.non, 0), ds ++ [p.1]) else none
  | .extend, k, ds, [(.lst es, _)] => if k == 0 && decide (ds.length + es.length ≤ big) then some ((.non, 0), ds ++ es) else none
  | .insert, k, ds, [(.int j, _), p] => if okd k p && decide (ds.length < big) && decide (0 ≤ j) && decide (j < 2 ^ 62) then some ((.non, 0), ds.take j.toNat ++ [p.1] ++ ds.drop j.toNat) else none
  | .pop, k, ds, [] => (ds[ds.length - 1]?).map fun d => ((d, k), ds.dropLast)
  | .popAt, k, ds, [(.int i, _)] => if -(2 ^ 62) ≤ i ∧ i < 2 ^ 62 then (seqIndex? i ds.length).bind fun j => (ds[j]?).map fun d => ((d, k), ds.eraseIdx j) else none
  | .clear, _, _, [] => some ((.non, 0), [])
  | .reverse, _, ds, [] => some ((.non, 0), ds.reverse)
  | _, _, _, _ => none
def evPe (env : Ev) : Pe → Option Int
  | .k j => some j
  | .v i => match env[i]? with
    | some (some (.int j, _)) => some j
    | _ => none
def atD : D → Int → Option (Nat × D)
  | .lst ds, j => (ixN ds.length j).bind fun n => (ds[n]?).map fun d => (n, d)
  | .tup ds, j => (ixN ds.length j).bind fun n => (ds[n]?).map fun d => (n, d)
  | _, _ => none
def setD : D → Nat → D → D
  | .lst ds, n, x => .lst (ds.set n x)
  | .tup ds, n, x => .tup (ds.set n x)
  | d, _, _ => d
/-- what stands at a path, its last number first -/
def pathD (env : Ev) : List Pe → D → Option D
  | [], d => some d
  | p :: r, d => (pathD env r d).bind fun d1 => (evPe env p).bind fun j => (atD d1 j).map (·.2)
def putP (env : Ev) : List Pe → D → D → D
  | [], _, x => x
  | p :: r, d, x => match (pathD env r d).bind fun d1 => (evPe env p).bind fun j => (atD d1 j).map fun q => (d1, q.1) with
    | some (d1, n) => putP env r d (setD d1 n x)
    | none => d
def isOwnL : Option Slot → Bool
  | some (some (.lst _, _ + 1)) => true
  | _ => false
section
variable (ρ : Nat → Fn)
/-- a comprehension's turns -/
def cloop (n : Nat) (own : List Nat) (t : T) (env0 : Ev) (c : Ev → Res Bool) (e : Ev → Res (D × Nat)) : List D → Ev → Res (List D)
  | [], env => .ok [] env
  | x :: xs, env => match bindT t x 0 (wipeE own env) with
    | none => .bad
    | some env1 => match c env1 with
      | .ok true env2 => (match e env2 with
        | .ok p env3 => if okd n p then (cloop n own t env0 c e xs (rst own env0 env3)).bind fun ys env4 => .ok (p.1 :: ys) env4 else .bad
        | _ => .bad)
      | .ok false env2 => cloop n own t env0 c e xs (rst own env0 env2)
      | _ => .bad
/-- an expression, as a value, as a test -/
def dft (v : Ev → Res (D × Nat)) : (Ev → Res (D × Nat)) × (Ev → Res Bool) := (v, fun env => (v env).bind fun p env1 => OBt (truth p.1) env1)
mutual
def evP : E → (Ev → Res (D × Nat)) × (Ev → Res Bool)
  | .var i => dft fun env => match env[i]? with
    | some (some (d, 0)) => .ok (d, 0) env
    | some (some (d, k + 1)) => if flat d then .ok (d, 0) env else .bad
    | _ => .bad
  | .frz i => dft fun env => match env[i]? with
    | some (some (d, _)) => .ok (d, 0) (env.set i (some (d, 0)))
    | _ => .bad
  | .mv i => dft fun env => match env[i]? with
    | some (some p) => .ok p (env.set i none)
    | _ => .bad
  | .lend is e => (fun env => match (evP e).1 (lendE is 0 env) with
    | .ok p _ => if full p.2 p.1 then .ok p env else .bad
    | .exc x _ => .exc x env
    | .bad => .bad,
    fun env => match (evP e).2 (lendE is 0 env) with
    | .ok b _ => .ok b env
    | .exc x _ => .exc x env
    | .bad => .bad)
  | .cst c => dft fun env => match cD c with
    | some d => .ok (d, 0) env
    | none => .bad
  | .glb _ c => dft fun env => match cD c with
    | some d => .ok (d, 0) env
    | none => .bad
  | .fnv x => dft fun env => .ok (.fn x, 0) env
  | .op o es => dft fun env => (evEs es env).bind fun ps env1 => (opSem o (ps.map (·.1))).res env1
  | .and a b => (fun env => ((evP a).1 env).bind fun p env1 => match truth p.1 with
    | some true => (evP b).1 env1
    | some false => .ok p env1
    | none => .bad,
    fun env => ((evP a).2 env).bind fun t env1 => if t then (evP b).2 env1 else .ok false env1)
  | .or a b => (fun env => ((evP a).1 env).bind fun p env1 => match truth p.1 with
    | some true => .ok p env1
    | some false => (evP b).1 env1
    | none => .bad,
    fun env => ((evP a).2 env).bind fun t env1 => if t then .ok true env1 else (evP b).2 env1)
  | .not a => (fun env => ((evP a).1 env).bind fun p env1 => match truth p.1 with
    | some b => .ok (.bl (!b), 0) env1
    | none => .bad,
    fun env => ((evP a).2 env).bind fun t env1 => .ok (!t) env1)
  | .chn c1 c2 a b c => dft fun env => ((evP a).1 env).bind fun p env1 => ((evP b).1 env1).bind fun q env2 => match oCmp c1 p.1 q.1 with
    | some true => ((evP c).1 env2).bind fun r env3 => OBr (oCmp c2 q.1 r.1) env3
    | some false => .ok (.bl false, 0) env2
    | none => .bad
  | .chn3 c1 c2 c3 a b c d => dft fun env => ((evP a).1 env).bind fun p env1 => ((evP b).1 env1).bind fun q env2 => match oCmp c1 p.1 q.1 with
    | some true => ((evP c).1 env2).bind fun r env3 => (match oCmp c2 q.1 r.1 with
      | some true => ((evP d).1 env3).bind fun w env4 => OBr (oCmp c3 r.1 w.1) env4
      | some false => .ok (.bl false, 0) env3
      | none => .bad)
    | some false => .ok (.bl false, 0) env2
    | none => .bad
  | .callv i cs es => dft fun env => match env[i]? with
    | some (some (.fn x, _)) => (match cs.lookup x with
      | some j => (evEs es env).bind fun ps env1 => if (ρ j).io == 0 then retN ((ρ j).F (ps.map freeze1)) env1 else .bad
      | none => .bad)
    | _ => .bad
  | .lst n es => dft fun env => (evEs es env).bind fun ps env1 => if ps.all (okd n) && decide (ps.length ≤ big) then .ok (.lst (ps.map (·.1)), n + 1) env1 else .bad
  | .tup n es => dft fun env => (evEs es env).bind fun ps env1 => if ps.all (okd n) && decide (ps.length ≤ big) then .ok (.tup (ps.map (·.1)), n + 1) env1 else .bad
  | .slc a lo hi => dft fun env => ((evP a).1 env).bind fun p env1 => (evO lo env1).bind fun l env2 => (evO hi env2).bind fun h env3 => (oSlc p.1 l h).res env3
  | .rev a => dft fun env => ((evP a).1 env).bind fun p env1 => match p.1 with
    | .lst ds => .ok (.lst ds.reverse, 1) env1
    | _ => .bad
  | .call j es => dft fun env => (evEs es env).bind fun ps env1 => if (ρ j).io == 0 then retC ((ρ j).F (ps.map freeze1)) env1 else .bad
  | .cio j is es => dft fun env => if (getSlots env is).isSome && ((ρ j).io == is.length) && nodupB is then (evEs es env).bind fun ps env1 => 
      (match getSlots env1 is with
      | none => .bad
      | some qs => match (ρ j).F (qs ++ ps.map freeze1) with
        | .ok d k outs => .ok (d, k) (putSlots is outs (wipeE is env1))
        | .exc x outs => .exc x (putSlots is outs (wipeE is env1))
        | .bad => .bad) else .bad
  | .cit j e0 es => dft fun env => ((evP e0).1 env).bind fun q env1 => (evEs es env1).bind fun ps env2 => if (ρ j).io == 1 then
      (match (ρ j).F (q :: ps.map freeze1) with
      | .ok d k [_] => .ok (d, k) env2
      | .exc x [_] => .exc x env2
      | _ => .bad) else .bad
  | .comp n own t it c e => dft fun env => (evI it env).bind fun xs env1 => if ownOk own env1 then
      (cloop n own t env1 (evOT c) (evP e).1 xs env1).bind fun ys env2 => .ok (.lst ys, n + 1) env2 else .bad
  | .idx i e => dft fun env => if env[i]?.join.isSome then ((evP e).1 env).bind fun p env1 => match env1[i]? with
    | some (some (d, 1)) => (oIx d p.1).res env1
    | _ => .bad else .bad
  | .mut i m es => dft fun env => if isOwnL env[i]? then (evEs es env).bind fun ps env1 => match env1[i]? with
    | some (some (.lst ds, k + 1)) => (match mutL m k ds ps with
      | some (p, ds') => .ok p (env1.set i (some (.lst ds', k + 1)))
      | none => .bad)
    | _ => .bad else .bad
  | .pth i ps => dft fun env => match env[i]? with
    | some (some (d, k)) => if k = ps.length then (match pathD env ps d with
      | some d2 => .ok (d2, 0) env
      | none => .bad) else .bad
    | _ => .bad
  | .mutp i ps m es => dft fun env => match env[i]? with
    | some (some (d, k)) => (match pathD env ps d with
      | some (.lst ds) => if ps.length < k then (evEs es (env.set i none)).bind fun qs env1 => (match mutL m (k - ps.length - 1) ds qs with
        | some (p, ds') => .ok p (env1.set i (some (putP env ps d (.lst ds'), k)))
        | none => .bad) else .bad
      | _ => .bad)
    | _ => .bad
def evEs : Es → Ev → Res (List (D × Nat))
  | .nil, env => .ok [] env
  | .cons a r, env => ((evP a).1 env).bind fun p env1 => (evEs r env1).bind fun ps env2 => .ok (p :: ps) env2
def evO : OE → Ev → Res (Option Int)
  | .no, env => .ok none env
  | .so e, env => ((evP e).1 env).bind fun p env1 => match p.1 with
    | .int i => .ok (some i) env1
    | _ => .bad
def evOT : OE → Ev → Res Bool
  | .no, env => .ok true env
  | .so e, env => (evP e).2 env
def evI : I → Ev → Res (List D)
  | .ex e, env => ((evP e).1 env).bind fun p env1 => match p.1 with
    | .lst ds => .ok ds env1
    | .tup ds => .ok ds env1
    | .str s => if s.length ≤ big then .ok (s.map fun c => D.str [c]) env1 else .bad
    | _ => .bad
  | .rng1 a, env => ((evP a).1 env).bind fun p env1 => match p.1 with
    | .int j => if -(2 ^ 62) ≤ j ∧ j.toNat ≤ big then .ok (rangeL 0 1 j.toNat) env1 else .bad
    | _ => .bad
  | .rng2 a b, env => ((evP a).1 env).bind fun p env1 => ((evP b).1 env1).bind fun q env2 => match p.1, q.1 with
    | .int i, .int j => if -(2 ^ 62) ≤ i ∧ i < 2 ^ 62 ∧ -(2 ^ 62) ≤ j ∧ j < 2 ^ 62 ∧ (j - i).toNat ≤ big then .ok (rangeL i 1 (j - i).toNat) env2 else .bad
    | _, _ => .bad
  | .rng3 a b c, env => ((evP a).1 env).bind fun p env1 => ((evP b).1 env1).bind fun q env2 => ((evP c).1 env2).bind fun r env3 => match p.1, q.1, r.1 with
    | .int i, .int j, .int c => if c ≠ 0 ∧ c.natAbs < 1073741824 ∧ Builtin.Range.small i j c = true ∧ (Builtin.Range.rangeSize i j c).toNat ≤ big then .ok (rangeL i c (Builtin.Range.rangeSize i j c).toNat) env3 else .bad
    | _, _, _ => .bad
  | .enum a, env => ((evP a).1 env).bind fun p env1 => match p.1 with
    | .lst ds => .ok (ds.zipIdx.map fun q => D.tup [.int q.2, q.1]) env1
    | _ => .bad
  | .zip a b, env => ((evP a).1 env).bind fun p env1 => ((evP b).1 env1).bind fun q env2 => match p.1, q.1 with
    | .lst ds, .lst es => .ok ((ds.zip es).map fun q => D.tup [q.1, q.2]) env2
    | .tup ds, .tup es => .ok ((ds.zip es).map fun q => D.tup [q.1, q.2]) env2
    | _, _ => .bad
  | .glt _ cs, env => match consts cs with
    | some ds => if ds.length ≤ big then .ok ds env else .bad
    | none => .bad
end
def evE (e : E) (env : Ev) : Res (D × Nat) := (evP ρ e).1 env
def evT (e : E) (env : Ev) : Res Bool := (evP ρ e).2 env
end
end Pv
namespace Pv
open PySem PySem.Spec PyProof.Rows L2
/-! ## does the small form fit the text -/
structure Ctx where
  io : Nat
  N : List Str
  sc : Scope
  fnf : Str → Bool
  fns : List (Str × Nat)
  blt : List Str
  gcs : List (Str × Const)
  gts : List (Str × List Const)
  fx : List Nat
def visB (c : Ctx) (x : Str) : Bool := (c.sc.names.lookup x == some .local) || (c.sc.names.lookup x == some .cell) || (c.sc.names.lookup x == some .free)
def locB (c : Ctx) (x : Str) : Bool := ((c.sc.names.lookup x == some .local) || (c.sc.names.lookup x == some .cell)) && (c.fnf x || c.sc.names.lookup x == some .local)
def glB (c : Ctx) (x : Str) : Bool := c.sc.names.lookup x == some .globalImplicit
def bltB (c : Ctx) (x : Str) : Bool := glB c x && decide (x ∈ c.blt)
def varB (c : Ctx) (i : Nat) (x : Str) : Bool := (c.N[i]? == some x) && visB c x && (x != ("__debug__" : Str)) && (x != ("__classdict__" : Str))
def vName : Expr → Option Str
  | .Name x _ => some x
  | _ => none
theorem vName_eq {e : Expr} {x : Str} (h : vName e = some x) : ∃ p, e = .Name x p := by
  cases e with
  | Name y p => cases h; exact ⟨p, rfl⟩
  | _ => cases h
def vConst : Expr → Option Const
  | .Constant c _ _ => some c
  | _ => none
theorem vConst_eq {e : Expr} {x : Const} (h : vConst e = some x) : ∃ k p, e = .Constant x k p := by
  cases e with
  | Constant y k p => cases h; exact ⟨k, p, rfl⟩
  | _ => cases h
def vBool : Expr → Option (BoolOp × Expr × Expr × List Expr × Pos)
  | .BoolOp o (a :: b :: r) p => some (o, a, b, r, p)
  | _ => none
theorem vBool_eq {e : Expr} {x} (h : vBool e = some x) : e = .BoolOp x.1 (x.2.1 :: x.2.2.1 :: x.2.2.2.1) x.2.2.2.2 := by
  cases e with
  | BoolOp o l p =>
    cases l with
    | nil => cases h
    | cons a l =>
      cases l with
      | nil => cases h
      | cons b r => cases h; rfl
  | _ => cases h
def vNot : Expr → Option Expr
  | .UnaryOp .Not a _ => some a
  | _ => none
theorem vNot_eq {e a : Expr} (h : vNot e = some a) : ∃ p, e = .UnaryOp .Not a p := by
  cases e with
  | UnaryOp o a p => cases o <;> first | (cases h; exact ⟨p, rfl⟩) | cases h
  | _ => cases h
def vList : Expr → Option (List Expr)
  | .List l _ => some l
  | _ => none
theorem vList_eq {e : Expr} {l} (h : vList e = some l) : ∃ p, e = .List l p := by
  cases e with
  | List a p => cases h; exact ⟨p, rfl⟩
  | _ => cases h
def vTup : Expr → Option (List Expr)
  | .Tuple l _ _ => some l
  | _ => none
theorem vTup_eq {e : Expr} {l} (h : vTup e = some l) : ∃ k p, e = .Tuple l k p := by
  cases e with
  | Tuple a k p => cases h; exact ⟨k, p, rfl⟩
  | _ => cases h
/-- o[i] -/
def vSub : Expr → Option (Expr × Expr)
  | .Subscript x y _ => some (x, y)
  | _ => none
theorem vSub_eq {e : Expr} {x} (h : vSub e = some x) : ∃ p, e = .Subscript x.1 x.2 p := by
  cases e with
  | Subscript a k p => cases h; exact ⟨p, rfl⟩
  | _ => cases h
def vNegC : Expr → Option Const
  | .UnaryOp .USub (.Constant c _ _) _ => some c
  | _ => none
theorem vNegC_eq {e : Expr} {x : Const} (h : vNegC e = some x) : ∃ k p q, e = .UnaryOp .USub (.Constant x k p) q := by
  unfold vNegC at h
  split at h
  · cases h; exact ⟨_, _, _, rfl⟩
  · cases h
/-- o.m(..) -/
def vMth : Expr → Option (Expr × Str × List Expr × Nat × Nat)
  | .Call (.Attribute x m ap) es [] cp => some (x, m, es, ap.endLine, cp.line)
  | _ => none
theorem vMth_eq {e : Expr} {x} (h : vMth e = some x) : ∃ ap cp, e = .Call (.Attribute x.1 x.2.1 ap) x.2.2.1 [] cp ∧ x.2.2.2.1 = ap.endLine ∧ x.2.2.2.2 = cp.line := by
  unfold vMth at h
  split at h
  · cases h; exact ⟨_, _, rfl, rfl, rfl⟩
  · cases h
def mtN : Mt → String
  | .append => "append" | .extend => "extend" | .insert => "insert" | .pop => "pop" | .popAt => "pop" | .clear => "clear" | .reverse => "reverse"
def mtA : Mt → Nat
  | .append => 1 | .extend => 1 | .insert => 2 | .pop => 0 | .popAt => 1 | .clear => 0 | .reverse => 0
/-- o[lo:hi] -/
def vSlc : Expr → Option (Expr × Option Expr × Option Expr)
  | .Subscript a (.Slice lo hi none _) _ => some (a, lo, hi)
  | _ => none
theorem vSlc_eq {e : Expr} {x} (h : vSlc e = some x) : ∃ p q, e = .Subscript x.1 (.Slice x.2.1 x.2.2 none p) q := by
  cases e with
  | Subscript a s q =>
    cases s with
    | Slice lo hi st p =>
      cases st with
      | none => cases h; exact ⟨p, q, rfl⟩
      | some _ => cases h
    | _ => cases h
  | _ => cases h
/-- o[::-1] -/
def vRev : Expr → Option Expr
  | .Subscript a (.Slice none none (some (.UnaryOp .USub (.Constant (.int 1) _ _) _)) _) _ => some a
  | _ => none
theorem vRev_eq {e a : Expr} (h : vRev e = some a) : ∃ k p1 p2 p3 p4, e = .Subscript a (.Slice none none (some (.UnaryOp .USub (.Constant (.int 1) k p1) p2)) p3) p4 := by
  unfold vRev at h
  split at h
  · cases h; exact ⟨_, _, _, _, _, rfl⟩
  · cases h
/-- f(..) of a name -/
def vCall : Expr → Option (Str × List Expr)
  | .Call (.Name x _) es [] _ => some (x, es)
  | _ => none
theorem vCall_eq {e : Expr} {x} (h : vCall e = some x) : ∃ p q, e = .Call (.Name x.1 p) x.2 [] q := by
  cases e with
  | Call f es ks q =>
    cases f with
    | Name y p =>
      cases ks with
      | nil => cases h; exact ⟨p, q, rfl⟩
      | cons _ _ => cases h
    | _ => cases h
  | _ => cases h
def vComp : Expr → Option (Expr × Expr × Expr × List Expr × Scope)
  | .ListComp elt [⟨tg, it, ifs, 0⟩] sc _ => some (elt, tg, it, ifs, sc)
  | _ => none
theorem vComp_eq {e : Expr} {x} (h : vComp e = some x) : ∃ p, e = .ListComp x.1 [⟨x.2.1, x.2.2.1, x.2.2.2.1, 0⟩] x.2.2.2.2 p := by
  unfold vComp at h
  split at h
  · cases h; exact ⟨_, rfl⟩
  · cases h
def vChn : Expr → Option (CmpOp × CmpOp × Expr × Expr × Expr)
  | .Compare a [o1, o2] [b, c] _ => some (o1, o2, a, b, c)
  | _ => none
theorem vChn_eq {e : Expr} {x} (h : vChn e = some x) : ∃ p, e = .Compare x.2.2.1 [x.1, x.2.1] [x.2.2.2.1, x.2.2.2.2] p := by
  unfold vChn at h
  split at h
  · cases h; exact ⟨_, rfl⟩
  · cases h
def vChn3 : Expr → Option (CmpOp × CmpOp × CmpOp × Expr × Expr × Expr × Expr)
  | .Compare a [o1, o2, o3] [b, c, d] _ => some (o1, o2, o3, a, b, c, d)
  | _ => none
theorem vChn3_eq {e : Expr} {x} (h : vChn3 e = some x) : ∃ p, e = .Compare x.2.2.2.1 [x.1, x.2.1, x.2.2.1] [x.2.2.2.2.1, x.2.2.2.2.2.1, x.2.2.2.2.2.2] p := by
  unfold vChn3 at h
  split at h
  · cases h; exact ⟨_, rfl⟩
  · cases h
def cOp : COp → CmpOp
  | .eq => .Eq | .ne => .NotEq | .lt => .Lt | .le => .LtE | .gt => .Gt | .ge => .GtE | .inn => .In | .nin => .NotIn
def bOp : BOp → Operator
  | .add => .Add | .sub => .Sub | .mul => .Mult | .fdiv => .FloorDiv | .mod => .Mod | .pow => .Pow | .shl => .LShift | .shr => .RShift | .band => .BitAnd
def b1N : B1 → String
  | .len => "len" | .abs => "abs" | .int => "int" | .str => "str" | .list => "list" | .sorted => "sorted" | .sum => "sum" | .max => "max" | .min => "min" | .tuple => "tuple"
def b2N : B2 → String
  | .max => "max" | .min => "min"
def notStar : Expr → Bool
  | .Starred _ _ => false
  | _ => true
def noSl : Expr → Bool
  | .Slice _ _ _ _ => false
  | _ => true
def isOp : Bool → CmpOp
  | true => .IsNot
  | false => .Is
def nbC : Const → Bool
  | .none => true
  | .bool _ => true
  | _ => false
def m1N : M1 → String
  | .join => "join" | .count => "count" | .startswith => "startswith" | .partition => "partition" | .split => "split" | .strip => "strip" | .index => "index" | .get => "get"
def m1Ok : M1 → Bool
  | .index => false
  | .get => false
  | _ => true
def notCall : Expr → Bool
  | .Call _ _ _ _ => false
  | _ => true
/-- the parts of an operation, from the left -/
def opArgs (c : Ctx) : Op → Expr → Option (List Expr)
  | .bin b, .BinOp x o y _ => if o = bOp b then some [x, y] else none
  | .neg, .UnaryOp .USub x _ => some [x]
  | .cmp p, .Compare x [o] [y] _ => if o = cOp p && !(behindInMarks o y) then some [x, y] else none
  | .isn neg k, .Compare x [o] [.Constant k' _ _] _ => if o = isOp neg && decide (k' = k) && nbC k then some [x] else none
  | .ix, .Subscript x y _ => if noSl y then some [x, y] else none
  | .b1 b, .Call (.Name f _) [x] [] _ => if f = Str.ofString (b1N b) && bltB c f && notStar x then some [x] else none
  | .b2 b, .Call (.Name f _) [x, y] [] _ => if f = Str.ofString (b2N b) && bltB c f && notStar x && notStar y then some [x, y] else none
  | .isin t, .Call (.Name f _) [x, .Name u _] [] _ => if f = Str.ofString "isinstance" && bltB c f && u = Str.ofString t && bltB c u && tyOk t && notStar x then some [x] else none
  | .mk m k, .Call (.Attribute x nm ap) [.Constant (.str k') _ _] [] cp => if nm = Str.ofString (m1N m) && m1Ok m && decide (k' = k) && (ap.endLine == cp.line) && notCall x then some [x] else none
  | .ck m k, .Call (.Attribute (.Constant (.str k') _ _) nm ap) [y] [] cp => if nm = Str.ofString (m1N m) && m1Ok m && decide (k' = k) && (ap.endLine == cp.line) && notStar y then some [y] else none
  | _, _ => none
mutual
def chkT (c : Ctx) : T → Expr → Bool
  | .nm i, e => (match vName e with
    | some x => (c.N[i]? == some x) && locB c x
    | none => false)
  | .tp l, e => (match vTup e with
    | some es => chkTs c l es
    | none => false)
  | .nil, _ => false
  | .cons _ _, _ => false
def chkTs (c : Ctx) : T → List Expr → Bool
  | .nil, [] => true
  | .cons a b, e :: es => notStar e && chkT c a e && chkTs c b es
  | _, _ => false
end
def ownNames (c : Ctx) (own : List Nat) : Option (List (Str × Nat)) := match own with
  | [] => some []
  | i :: r => match c.N[i]? with
    | some x => (ownNames c r).map ((x, i) :: ·)
    | none => none
def Ctx.blk (c : Ctx) (scope : Scope) : Ctx := { c with sc := relS scope c.sc, fnf := fun x => scope.names.lookup x == some .cell }
def notSet : Expr → Bool
  | .Set _ _ _ => false
  | _ => true
/-- iterables that are not folded sets -/
def foldOk : Expr → Bool
  | .Set _ _ _ => false
  | _ => true
def chkIs (c : Ctx) : List Nat → List Expr → Bool
  | [], [] => true
  | i :: is, e :: es => notStar e && (match vName e with | some x => varB c i x | none => false) && chkIs c is es
  | _, _ => false
def chkPe (c : Ctx) : Pe → Expr → Bool
  | .k j, e => decide (vConst e = some (.int j)) || decide (vNegC e = some (.int (-j)))
  | .v i, e => (match vName e with | some x => varB c i x | none => false)
def chkP (c : Ctx) (i : Nat) : List Pe → Expr → Bool
  | [], e => (match vName e with | some x => varB c i x | none => false)
  | p :: r, e => (match vSub e with | some (x, y) => chkPe c p y && noSl y && chkP c i r x | none => false)
mutual
def chkE (c : Ctx) : E → Expr → Bool
  | .var i, e => (match vName e with | some x => varB c i x | none => false)
  | .frz i, e => (match vName e with | some x => varB c i x | none => false)
  | .mv i, e => (match vName e with | some x => varB c i x | none => false)
  | .lend _ m, e => chkE c m e
  | .cst k, e => vConst e == some k
  | .glb y k, e => (match vName e with | some x => decide (x = y) && glB c x && (x != ("__debug__" : Str)) && decide ((y, k) ∈ c.gcs) | none => false)
  | .fnv y, e => (match vName e with | some x => decide (x = y) && glB c x && (x != ("__debug__" : Str)) && decide (y ∈ c.fns.map (·.1)) | none => false)
  | .op o ms, e => (match opArgs c o e with | some es => chkEs c ms es | none => false)
  | .and a b, e => (match vBool e with
    | some (.And, x, y, [], _) => chkE c a x && chkE c b y
    | some (.And, x, y, z :: r, p) => chkE c a x && chkE c b (.BoolOp .And (y :: z :: r) p)
    | _ => false)
  | .or a b, e => (match vBool e with
    | some (.Or, x, y, [], _) => chkE c a x && chkE c b y
    | some (.Or, x, y, z :: r, p) => chkE c a x && chkE c b (.BoolOp .Or (y :: z :: r) p)
    | _ => false)
  | .not a, e => (match vNot e with | some x => chkE c a x | none => false)
  | .chn p q a b d, e => (match vChn e with
    | some (o1, o2, x, y, z) => decide (o1 = cOp p) && decide (o2 = cOp q) && !(lastMarks [o1, o2] [y, z]) && chkE c a x && chkE c b y && chkE c d z
    | none => false)
  | .chn3 p q r a b d w, e => (match vChn3 e with
    | some (o1, o2, o3, x, y, z, u) => decide (o1 = cOp p) && decide (o2 = cOp q) && decide (o3 = cOp r) && !(lastMarks [o1, o2, o3] [y, z, u]) && chkE c a x && chkE c b y && chkE c d z && chkE c w u
    | none => false)
  | .callv i cs ms, e => (match vCall e with
    | some (f, x :: es) => varB c i f && (cs.all fun p => c.fns[p.2]? == some (p.1, es.length + 1)) && chkEs c ms (x :: es)
    | _ => false)
  | .lst _ ms, e => (match vList e with | some es => chkEs c ms es | none => false)
  | .tup _ ms, e => (match vTup e with | some es => chkEs c ms es | none => false)
  | .slc a lo hi, e => (match vSlc e with | some (x, l, h) => chkE c a x && chkO c lo l && chkO c hi h | none => false)
  | .rev a, e => (match vRev e with | some x => chkE c a x | none => false)
  | .call j ms, e => (match vCall e with
    | some (f, x :: es) => (c.fns[j]? == some (f, es.length + 1)) && glB c f && (f != ("__debug__" : Str)) && chkEs c ms (x :: es)
    | _ => false)
  | .cio j is ms, e => (match vCall e with
    | some (f, x :: es) => (c.fns[j]? == some (f, es.length + 1)) && glB c f && (f != ("__debug__" : Str)) && chkIs c is ((x :: es).take is.length) && chkEs c ms ((x :: es).drop is.length)
    | _ => false)
  | .cit j m ms, e => (match vCall e with
    | some (f, x :: es) => (c.fns[j]? == some (f, es.length + 1)) && glB c f && (f != ("__debug__" : Str)) && notStar x && chkE c m x && chkEs c ms es
    | _ => false)
  | .comp _ own t it k m, e => (match vComp e with
    | some (elt, tg, iter, ifs, scope) => (match ownNames c own with
      | some on => blkC c.N c.sc scope on && ((tIdx t).all fun i => own.contains i) && foldOk iter && chkI c it tg iter && chkT (c.blk scope) t tg && chkOT (c.blk scope) k ifs && chkE (c.blk scope) m elt
      | none => false)
    | none => false)
  | .idx i m, e => (match vSub e with
    | some (x, y) => (match vName x with | some z => varB c i z | none => false) && noSl y && chkE c m y
    | none => false)
  | .mut i m ms, e => (match vMth e with
    | some (x, name, es, l1, l2) => (match vName x with | some z => varB c i z | none => false) && decide (name = Str.ofString (mtN m)) && decide (es.length = mtA m) && (l1 == l2) && chkEs c ms es
    | none => false)
  | .pth i ps, e => chkP c i ps e
  | .mutp i ps m ms, e => (match vMth e with
    | some (x, name, es, l1, l2) => chkP c i ps x && decide (name = Str.ofString (mtN m)) && decide (es.length = mtA m) && (l1 == l2) && chkEs c ms es
    | none => false)
def chkEs (c : Ctx) : Es → List Expr → Bool
  | .nil, [] => true
  | .cons a r, e :: es => notStar e && chkE c a e && chkEs c r es
  | _, _ => false
def chkO (c : Ctx) : OE → Option Expr → Bool
  | .no, none => true
  | .so a, some e => chkE c a e
  | _, _ => false
def chkOT (c : Ctx) : OE → List Expr → Bool
  | .no, [] => true
  | .so a, [e] => chkE c a e
  | _, _ => false
def chkI (c : Ctx) : I → Expr → Expr → Bool
  | .ex a, _, e => notSet e && chkE c a e
  | .rng1 a, _, e => (match vCall e with | some (f, [x]) => decide (f = Str.ofString "range") && bltB c f && notStar x && chkE c a x | _ => false)
  | .rng2 a b, _, e => (match vCall e with | some (f, [x, y]) => decide (f = Str.ofString "range") && bltB c f && notStar x && notStar y && chkE c a x && chkE c b y | _ => false)
  | .rng3 a b d, _, e => (match vCall e with | some (f, [x, y, z]) => decide (f = Str.ofString "range") && bltB c f && notStar x && notStar y && notStar z && chkE c a x && chkE c b y && chkE c d z | _ => false)
  | .enum a, tg, e => (vTup tg).isSome && (match vCall e with | some (f, [x]) => decide (f = Str.ofString "enumerate") && bltB c f && notStar x && chkE c a x | _ => false)
  | .zip a b, tg, e => (vTup tg).isSome && (match vCall e with | some (f, [x, y]) => decide (f = Str.ofString "zip") && bltB c f && notStar x && notStar y && chkE c a x && chkE c b y | _ => false)
  | .glt y cs, _, e => (match vName e with | some x => decide (x = y) && glB c x && (x != ("__debug__" : Str)) && decide ((y, cs) ∈ c.gts) | none => false)
end
end Pv

namespace Pv
open PySem PySem.Spec PyProof.Rows L2
/-! ## what the model's run is wanted to reach -/
abbrev Fg := PySem.W.Frag
def SEv (X : Cx) (e : Expr) : TE := fun σ H Q => ∀ (pins : List (Addr × Obj)) (s : Shared), Inv X pins σ H s → wpAny (model X.prog X.w) X.A (eval e X.env) (EP X pins σ Q) X.xe s
def STv (X : Cx) (e : Expr) : TT := fun σ H Q => ∀ (pins : List (Addr × Obj)) (s : Shared), Inv X pins σ H s → wpAny (model X.prog X.w) X.A (isTrue e X.env (eval e X.env)) (TP X pins σ Q) X.xe s
def SIv (X : Cx) (tg e : Expr) : TI := fun σ H R => ∀ (pins : List (Addr × Obj)) (s : Shared), Inv X pins σ H s → wpAny (model X.prog X.w) X.A (eval e X.env) (fun v s1 => wpAny (model X.prog X.w) X.A (pyIter v) (PIE X pins σ tg R) X.xe s1) X.xe s
def SSv (X : Cx) (st : List Stmt) : TS := fun D σ H => ∀ (pins : List (Addr × Obj)) (s : Shared), Inv X pins σ H s → wpAny (model X.prog X.w) X.A (execs st X.env) (SP X pins D) X.xe s
def SL (X : Cx) : List Expr → TA
  | [] => tNil
  | e :: r => tCons (SEv X e) (SL X r)
section
variable {X : Cx} {e tg : Expr} {es : List Expr} {st : List Stmt} {σ : L2.St} {H : Hp}
theorem pe_sem : PE X e (SEv X e) := ⟨fun pins s σ H Q I h => h pins s I⟩
theorem pt_sem : PT X e (STv X e) := ⟨fun pins s σ H Q I h => h pins s I⟩
theorem pi_sem : PI X tg e (SIv X tg e) := ⟨fun pins s σ H Q I h => h pins s I⟩
theorem pss_sem : PSs X st (SSv X st) := ⟨fun pins s σ H Q I h => h pins s I⟩
theorem SEv.of {t : TE} (h : PE X e t) {Q : VK} (q : t σ H Q) : SEv X e σ H Q := fun pins s I => h.run pins s σ H Q I q
theorem STv.of {t : TT} (h : PT X e t) {Q : Bool → Hp → Prop} (q : t σ H Q) : STv X e σ H Q := fun pins s I => h.run pins s σ H Q I q
theorem SIv.of {t : TI} (h : PI X tg e t) {Q : It → Hp → Prop} (q : t σ H Q) : SIv X tg e σ H Q := fun pins s I => h.run pins s σ H Q I q
theorem SSv.of {t : TS} (h : PSs X st t) {D : Ends} (q : t D σ H) : SSv X st D σ H := fun pins s I => h.run pins s σ H D I q
theorem SEv.mono {Q Q' : VK} (h : SEv X e σ H Q) (q : ∀ v H, Q v H → Q' v H) : SEv X e σ H Q' := fun pins s I => thn (h pins s I) fun u s1 ⟨v, H', I', r, z⟩ => ⟨v, H', I', r, q _ _ z⟩
theorem star_of (h : notStar e = true) : starEach (e :: es) X.env = (false, eval e X.env) :: starEach es X.env := by
  cases e <;> first | rfl | cases h
def allNS : List Expr → Bool
  | [] => true
  | e :: r => notStar e && allNS r
theorem pa_sem : ∀ {es : List Expr}, allNS es = true → PA X es (SL X es)
  | [], _ => pa_nil
  | e :: r, h => by
    have h' : (notStar e && allNS r) = true := h
    rw [Bool.and_eq_true] at h'
    exact pa_cons pe_sem (pa_sem h'.2) (star_of h'.1)
theorem noany : ∀ {es : List Expr} {pos : Pos}, allNS es = true → (backTo pos (starEach es X.env)).any (·.1) = false
  | [], _, _ => rfl
  | e :: r, pos, h => by
    have h' : (notStar e && allNS r) = true := h
    rw [Bool.and_eq_true] at h'
    rw [star_of h'.1]
    show ((false || (backTo pos (starEach r X.env)).any (·.1)) = false)
    rw [noany h'.2]; rfl
end

/-! ## what the evaluator's answer promises -/
/-- an exception that flies -/
def ExnR (K : Fg) (cls : Value) (dd : Option Addr) (H : Hp) (x : D) : Prop :=
  ∃ c y, x = .exn c y ∧ cls = .ref (He.ga K c) ∧ ((dd = none ∧ y = .non) ∨ ∃ d v, dd = some d ∧ H d = some (.xd [("at", v)]) ∧ flat y = true ∧ Rep K (fun _ => none) v y)
def ExcP (K : Fg) (W : WX) (σ : L2.St) (f : Fo) (G H : Hp) (x : D) (env' : Ev) : Prop :=
  ∀ cls dd G' H' f', Rel K G' env' σ H' f' → ExnR K cls dd H' x → Step f G H f' [] G' H' → W cls dd σ H'
def PostE (K : Fg) (W : WX) (σ : L2.St) (f : Fo) (G H : Hp) (r : Res (D × Nat)) (Q : VK) : Prop := match r with
  | .ok p env' => ∀ v G' H' f' bs, Rel K G' env' σ H' f' → Tmp K G' H' f' p.2 v p.1 bs → Step f G H f' bs G' H' → Q v H'
  | .exc x env' => ExcP K W σ f G H x env'
  | .bad => False
def PostT (K : Fg) (W : WX) (σ : L2.St) (f : Fo) (G H : Hp) (r : Res Bool) (Q : Bool → Hp → Prop) : Prop := match r with
  | .ok b env' => ∀ G' H' f', Rel K G' env' σ H' f' → Step f G H f' [] G' H' → Q b H'
  | .exc x env' => ExcP K W σ f G H x env'
  | .bad => False
def PostL (K : Fg) (W : WX) (σ : L2.St) (f : Fo) (G H : Hp) (r : Res (List (D × Nat))) (Q : List V → Hp → Prop) : Prop := match r with
  | .ok ps env' => ∀ vs G' H' f' bs, Rel K G' env' σ H' f' → TmpL K G' H' f' vs ps bs → Step f G H f' bs G' H' → Q vs H'
  | .exc x env' => ExcP K W σ f G H x env'
  | .bad => False
/-- the iterator tells these, one after another -/
structure ItOk (K : Fg) (J : It) (ds : List D) (G : Hp) : Prop where
  go : ∀ (i : Nat) (d : D) (G1 H1 : Hp), ds[i]? = some d → Le G G1 → Sub G1 H1 → J.go i H1 ∧ ∀ x H2, J.yld i H1 x H2 → ∃ G2, New G1 H1 G2 H2 [] ∧ Rep K G2 x d
  stop : ∀ (i : Nat) (G1 H1 : Hp), ds.length ≤ i → Le G G1 → Sub G1 H1 → J.stop i H1
def PostI (K : Fg) (W : WX) (σ : L2.St) (f : Fo) (G H : Hp) (r : Res (List D)) (R : It → Hp → Prop) : Prop := match r with
  | .ok ds env' => ∀ J G' H' f', Rel K G' env' σ H' f' → Step f G H f' [] G' H' → ItOk K J ds G' → ds.length ≤ big → R J H'
  | .exc x env' => ExcP K W σ f G H x env'
  | .bad => False
section
variable {K : Fg} {W : WX} {σ : L2.St} {f f1 : Fo} {G G1 H H1 : Hp} {bs : List Addr}
theorem ExcP.step {x : D} {env' : Ev} (e : ExcP K W σ f G H x env') (s : Step f G H f1 bs G1 H1) : ExcP K W σ f1 G1 H1 x env' := fun cls dd G' H' f' r z st =>
  e cls dd G' H' f' r z ((s.trans st).lessB fun _ h => (nomatch h))
end
/-- what only reads, and lays new objects -/
def POr (K : Fg) (G H : Hp) (o : OR) (Q : VK) : Prop := match o with
  | some p => ∀ v G' H' bs, New G H G' H' bs → Own K G' H' p.2 v p.1 bs → Q v H'
  | none => False
theorem POr.flat {K : Fg} {G H : Hp} {p : D × Nat} {Q : VK} (s : Sub G H) (h : POr K G H (some p) Q) {v : V} (f : flat p.1 = true) (r : Rep K G v p.1) : Q v H :=
  h v G H [] (New.refl s) (Own.of_flat r f)
theorem POr.rep {K : Fg} {G H : Hp} {d : D} {Q : VK} (s : Sub G H) (h : POr K G H (some (d, 0)) Q) {v : V} (r : Rep K G v d) : Q v H :=
  h v G H [] (New.refl s) ⟨r, rfl⟩
theorem POr.lst {K : Fg} {G H : Hp} {ds : List D} {Q : VK} (s : Sub G H) (h : POr K G H (some (.lst ds, 1)) Q) {xs : List V} (r : RepL K G xs ds) : ∀ p, H p = none → Q (.ref p) (upd H p (.lst xs)) := fun p hp => by
  refine h (.ref p) G _ [p] (New.upd s hp) (.inr (.inl ⟨p, xs, ds, [], rfl, rfl, upd_same, ?_, rfl⟩))
  clear h hp s
  have aux : ∀ {vs : List V} {es : List D}, RepL K G vs es → OwnL (Own K G (upd H p (.lst xs)) 0) vs es [] := by
    intro vs
    induction vs with
    | nil => intro es r; cases r; exact .nil
    | cons a l ih => intro es r; cases r with | cons x y => exact OwnL.cons (b := []) (bs := []) ⟨x, rfl⟩ (ih y)
  exact aux r
theorem POr.tup {K : Fg} {G H : Hp} {ds : List D} {Q : VK} (s : Sub G H) (h : POr K G H (some (.tup ds, 1)) Q) {xs : List V} (r : RepL K G xs ds) : ∀ p, H p = none → Q (.ref p) (upd H p (.tup xs)) := fun p hp => by
  refine h (.ref p) G _ [p] (New.upd s hp) (.inr (.inr (.inl ⟨p, xs, ds, [], rfl, rfl, upd_same, ?_, rfl⟩)))
  clear h hp s
  have aux : ∀ {vs : List V} {es : List D}, RepL K G vs es → OwnL (Own K G (upd H p (.tup xs)) 0) vs es [] := by
    intro vs
    induction vs with
    | nil => intro es r; cases r; exact .nil
    | cons a l ih => intro es r; cases r with | cons x y => exact OwnL.cons (b := []) (bs := []) ⟨x, rfl⟩ (ih y)
  exact aux r
theorem New.frozen {G H G' H' : Hp} {bs : List Addr} (n : New G H G' H' bs) : New G H (addG G' H' bs) H' [] := by
  refine ⟨n.keep, n.grow.trans (.addG n.gB), fun _ h => (nomatch h), fun _ h => (nomatch h), fun a h => ?_, fun a o h => ?_, .nil⟩
  · by_cases hb : a ∈ bs
    · exact .inr (n.newB a hb)
    · rw [addG_out hb] at h; exact n.newG a h
  · by_cases hb : a ∈ bs
    · rw [addG_in hb] at h; exact .inl h
    · rw [addG_out hb] at h; exact n.sub a o h
theorem POr.tupF {K : Fg} {G H : Hp} {ds : List D} {Q : VK} (s : Sub G H) (h : POr K G H (some (.tup ds, 0)) Q) {xs : List V} (r : RepL K G xs ds) : ∀ p, H p = none → Q (.ref p) (upd H p (.tup xs)) := fun p hp => by
  have n : New G H G (upd H p (.tup xs)) [p] := New.upd s hp
  refine h (.ref p) _ _ [] n.frozen ⟨.tup (by rw [addG_in (by simp)]; exact upd_same) (r.mono (.addG n.gB)), rfl⟩
/-! ### operations on values, as the model does them -/
def WR2 (X : Cx) (g : Value → Value → Sem Value) : R2 := fun x y H Q => ∀ (pins : List (Addr × Obj)) (s : Shared) (σ : L2.St) (v u : Value), Inv X pins σ H s → RelV x v → RelV y u →
    wpAny (model X.prog X.w) X.A (g v u) (EP X pins σ Q) X.xe s
theorem wr2_self {X : Cx} {g : Value → Value → Sem Value} : OpR X g (WR2 X g) := fun pins s σ H x y v u Q I r1 r2 h => h pins s σ v u I r1 r2
theorem WR2.of {X : Cx} {g : Value → Value → Sem Value} {r : R2} (o : OpR X g r) {x y : V} {H : Hp} {Q : VK} (h : r x y H Q) : WR2 X g x y H Q := fun pins s σ v u I r1 r2 => o pins s σ H x y v u Q I r1 r2 h
def WR1 (X : Cx) (g : Value → Sem Value) : V → Hp → VK → Prop := fun x H Q => ∀ (pins : List (Addr × Obj)) (s : Shared) (σ : L2.St) (v : Value), Inv X pins σ H s → RelV x v →
    wpAny (model X.prog X.w) X.A (g v) (EP X pins σ Q) X.xe s
theorem wr1_self {X : Cx} {g : Value → Sem Value} : UnR X g (WR1 X g) := fun pins s σ H x v Q I r1 h => h pins s σ v I r1
def WC (X : Cx) (g : Value) : List V → Hp → VK → Prop := fun xs H Q => ∀ (pins : List (Addr × Obj)) (s : Shared) (σ : L2.St) (us : List Value), Inv X pins σ H s → Vals xs us →
    wpAny (model X.prog X.w) X.A (call g us) (EP X pins σ Q) X.xe s
theorem wc_self {X : Cx} {g : Value} : CallR X g (WC X g) := fun pins s σ H xs us Q I r1 h => h pins s σ us I r1
theorem WC.of {X : Cx} {g : Value} {r : List V → Hp → VK → Prop} (o : CallR X g r) {xs : List V} {H : Hp} {Q : VK} (h : r xs H Q) : WC X g xs H Q := fun pins s σ us I r1 => o pins s σ H xs us Q I r1 h
end Pv
namespace Pv
open PySem PySem.Spec PyProof.Rows L2
/-! ## the operations -/
section
variable {X : Cx} {G H : Hp} {σ : L2.St} {Q : VK}
theorem por_if {K : Fg} {c : Prop} [Decidable c] {o : OR} (h : POr K G H (if c then o else none) Q) : c ∧ POr K G H o Q := by
  by_cases hc : c
  · rw [if_pos hc] at h; exact ⟨hc, h⟩
  · rw [if_neg hc] at h; exact h.elim
theorem por_nif {K : Fg} {c : Prop} [Decidable c] {o : OR} (h : POr K G H (if c then none else o) Q) : ¬ c ∧ POr K G H o Q := by
  by_cases hc : c
  · rw [if_pos hc] at h; exact h.elim
  · rw [if_neg hc] at h; exact ⟨hc, h⟩
theorem por_map {K : Fg} {α : Type} {o : Option α} {g : α → D × Nat} (h : POr K G H (o.map g) Q) : ∃ a, o = some a ∧ POr K G H (some (g a)) Q := by
  cases o with
  | none => exact h.elim
  | some a => exact ⟨a, rfl, h⟩
theorem por_bind {K : Fg} {α : Type} {o : Option α} {g : α → OR} (h : POr K G H (o.bind g) Q) : ∃ a, o = some a ∧ POr K G H (g a) Q := by
  cases o with
  | none => exact h.elim
  | some a => exact ⟨a, rfl, h⟩
theorem Inv.lstR {pins : List (Addr × Obj)} {s : Shared} {l : Addr} {xs : List V} (I : Inv X pins σ H s) (hH : Rd H l (.lst xs)) : xs.length ≤ sizeLine ∧ ∃ (its : List Value) (n : Nat), Vals xs its ∧ xs.length = its.length ∧ s.heap.get? l = some { cls := .type "list", data := .seq its.toArray n } := by
  obtain ⟨z, its, n, r, e⟩ := hH.ok I.hok
  exact ⟨z, its, n, r, r.length, e⟩
/-- lists put together, also such as are locked -/
theorem op_catS : OpR X (binaryOp .Add) (fun x y H Q => ∃ l b xs zs, x = .ref l ∧ y = .ref b ∧ Rd H l (.lst xs) ∧ Rd H b (.lst zs) ∧ xs.length + zs.length ≤ sizeLine ∧ ∀ p, H p = none → Q (.ref p) (upd H p (.lst (xs ++ zs)))) := by
  intro pins s σ H x y v u Q I rx ry h
  obtain ⟨l, b, xs, zs, rfl, rfl, hH, hB, hz, q⟩ := h
  cases rx
  cases ry
  obtain ⟨z, its, n, r, hl, e⟩ := Inv.lstR I hH
  obtain ⟨z2, its2, n2, r2, hl2, e2⟩ := Inv.lstR I hB
  refine PySem.P.add_list e e2 ?_ (by rw [List.size_toArray, List.size_toArray]; omega)
  have ea : its.toArray ++ its2.toArray = (its ++ its2).toArray := by simp
  rw [ea]
  exact ⟨.ref _, _, I.lnew (t' := s.toks) (r.append r2) (by rw [List.length_append]; omega), rfl, q _ I.fresh⟩
theorem op_repS : OpR X (binaryOp .Mult) (fun x y H Q => ∃ l k xs, x = .ref l ∧ y = .int k ∧ Rd H l (.lst xs) ∧ -(2 ^ 63) ≤ k ∧ k < 2 ^ 63 ∧ xs.length * k.toNat ≤ sizeLine ∧
  ∀ p, H p = none → Q (.ref p) (upd H p (.lst (List.replicate k.toNat xs).flatten))) := by
  intro pins s σ H x y v u Q I rx ry h
  obtain ⟨l, k, xs, rfl, rfl, hH, h1, h2, hz, q⟩ := h
  cases rx
  obtain ⟨t, rfl⟩ := ry
  obtain ⟨z, its, n, r, hl, e⟩ := Inv.lstR I hH
  have hlen : its.toArray.size * k.toNat ≤ sizeLine := by rw [List.size_toArray, ← hl]; exact hz
  have hcap : ¬ its.toArray.size * k.toNat > (2 ^ 63 - 1) / 8 := by
    have : (sizeLine : Nat) ≤ (2 ^ 63 - 1) / 8 := by decide
    omega
  have hfit : ¬ (!Builtin.List.listFitsIndex k) = true := by
    rw [fitsIndex_both h1 h2]
    exact Bool.false_ne_true
  have hlong : ¬ Builtin.List.listTooLong (its.toArray.size * k.toNat) = true := by
    rw [notLongL hlen]
    exact Bool.false_ne_true
  have hnew : List.foldl (fun x1 x2 => x1 ++ x2) #[] (List.replicate (if its.toArray.isEmpty = true then 0 else k.toNat) its.toArray) = (List.replicate k.toNat its).flatten.toArray := by
    have f0 : ∀ m : Nat, List.foldl (fun x1 x2 => x1 ++ x2) #[] (List.replicate m its.toArray) = (List.replicate m its).flatten.toArray := fun m => by
      have := foldl_rep its m []
      rw [List.nil_append] at this
      exact this
    rw [f0]
    cases its with
    | nil => simp
    | cons a r' => rw [if_neg (by simp)]
  refine wpAny_binaryOp_repeat_ref (T := "list") (U := "int") (by decide) ⟨_, e, rfl⟩ (fun s' => typeIs_int s' k t) noFill_list_mul F.fills_int_mul F.slot_int_rmul repeat_list F.slot_int_index.lookup
    (call_meets F.slot_int_rmul (typeIs_int s k t) F.entry_int_rmul (F.args_int_rmul_2 _ _) (int___rmul___int_list k t l its.toArray n)
      ⟨e, rfl, ⟨_, e, rfl⟩, call_meets F.slot_list_mul ⟨_, e, rfl⟩ F.entry_list_mul (F.args_list_mul_2 _ _) (AutoListH.list___mul___list_int_3 l its.toArray n k t hfit hcap hlong) ⟨e, ?_⟩⟩)
  rw [hnew]
  exact ⟨.ref _, _, I.lnew (t' := s.toks) (r.rep k.toNat) (by rw [PyProof.Rows.lm_len_rep_flat, Nat.mul_comm]; exact hz), rfl, q _ I.fresh⟩
theorem rep_arr (a : List Nat) : ∀ n : Nat, List.foldl (fun x1 x2 => x1 ++ x2) #[] (List.replicate n a.toArray) = (List.replicate n a).flatten.toArray := fun n => by
  have aux : ∀ (n : Nat) (acc : List Nat), List.foldl (fun x1 x2 => x1 ++ x2) acc.toArray (List.replicate n a.toArray) = (acc ++ (List.replicate n a).flatten).toArray := by
    intro n
    induction n with
    | zero => intro acc; simp
    | succ n ih =>
      intro acc
      rw [List.replicate_succ, List.foldl_cons, List.replicate_succ, List.flatten_cons, ← List.append_assoc, ← ih (acc ++ a)]
      simp
  have := aux n []
  simpa using this
theorem op_repStr : OpR X (binaryOp .Mult) (fun x y H Q => ∃ a k, x = .str (sv a) ∧ y = .int k ∧ -(2 ^ 62) < k ∧ k < 2 ^ 62 ∧ a.length * k.toNat ≤ sizeLine ∧ Q (.str (sv (List.replicate k.toNat a).flatten)) H) := by
  intro pins s σ H x y v u Q I rx ry h
  obtain ⟨a, k, rfl, rfl, h1, h2, hz, q⟩ := h
  obtain ⟨t, rfl⟩ := rx
  obtain ⟨t', rfl⟩ := ry
  have hs : sizeLine = 16777216 := sizeLine_eq
  have hz' : a.length * k.toNat ≤ 16777216 := by rw [← hs]; exact hz
  have e1 : decide (k < -(2 ^ 63 : Int)) = false := decide_eq_false (by omega)
  have e2 : decide (k ≥ 2 ^ 63) = false := decide_eq_false (by omega)
  refine PySem.P.mul_str (by rw [e1, e2]; rfl) (fun hk _ => ?_) (fun hk _ => ?_) ?_
  · rw [sv_len]
    intro hgt
    have hk1 : 0 < k := by omega
    have : (2 ^ 63 - 1) / k * k ≤ 2 ^ 63 - 1 := Int.ediv_mul_le _ (by omega)
    have hle : ((a.length : Int)) * k ≤ 16777216 := by
      have h9 := Int.ofNat_le.mpr hz'
      rw [Int.natCast_mul, Int.toNat_of_nonneg (by omega)] at h9
      exact h9
    have h3 : ((2 ^ 63 - 1) / k + 1) * k ≤ (a.length : Int) * k := Int.mul_le_mul_of_nonneg_right (by omega) (by omega)
    have h4 : (2 ^ 63 - 1 : Int) < ((2 ^ 63 - 1) / k + 1) * k := by
      have := Int.lt_ediv_add_one_mul_self (2 ^ 63 - 1) hk1
      exact this
    omega
  · rw [sv_len]
    unfold Builtin.Str.tooLong
    exact decide_eq_false (by rw [hs]; omega)
  · by_cases hk : k < 1
    · rw [if_pos hk]
      have ek : k.toNat = 0 := by omega
      rw [ek] at q
      exact ⟨by decide, .str _, H, I.tok _, ⟨_, rfl⟩, q⟩
    · rw [if_neg hk]
      by_cases h0 : (k == 1 || (sv a).length == 0) = true
      · rw [if_pos h0]
        refine ⟨.str (sv a), H, I, ⟨_, rfl⟩, ?_⟩
        have : (List.replicate k.toNat a).flatten = a := by
          rcases Bool.or_eq_true_iff.mp h0 with z | z
          · have : k = 1 := beq_iff_eq.mp z
            subst this
            simp
          · have z' := beq_iff_eq.mp z
            rw [sv_len] at z'
            have : a = [] := List.length_eq_zero_iff.mp z'
            subst this
            simp
        rw [this] at q
        exact q
      · rw [if_neg h0]
        refine ⟨?_, ?_⟩
        · rw [rep_arr]
          show (sv _).length ≤ _
          rw [sv_len, PyProof.Rows.lm_len_rep_flat, Nat.mul_comm]
          exact hz
        · rw [rep_arr]
          exact ⟨.str _, H, I.tok _, ⟨_, rfl⟩, q⟩

theorem big_le {n : Nat} (h : n ≤ big) : n ≤ sizeLine := by rw [big_eq]; exact h
theorem bin_val (b : BOp) {x y : V} {dx dy : D} (rx : Rep X.K G x dx) (ry : Rep X.K G y dy) (sb : Sub G H) (h : POr X.K G H (oBin b dx dy) Q) : WR2 X (binaryOp (bOp b)) x y H Q := by
  cases b with
  | add =>
    cases rx with
    | int i => cases ry with
      | int j => exact WR2.of op_add ⟨i, j, rfl, rfl, h.flat sb rfl (.int _)⟩
      | _ => exact h.elim
    | str a => cases ry with
      | str c =>
        obtain ⟨hc, h⟩ := por_if h
        exact WR2.of op_add_str ⟨sv a, sv c, rfl, rfl, by rw [sv_len, sv_len]; exact big_le hc, by rw [sv_add]; exact h.flat sb rfl (.str _)⟩
      | _ => exact h.elim
    | lst ea ra => cases ry with
      | lst ec rc =>
        obtain ⟨hc, h⟩ := por_if h
        exact WR2.of op_catS ⟨_, _, _, _, rfl, rfl, sb.rd ea, sb.rd ec, by rw [ra.length, rc.length]; exact big_le hc, h.lst sb (ra.append rc)⟩
      | _ => exact h.elim
    | tup ea ra => cases ry with
      | tup ec rc =>
        obtain ⟨hc, h⟩ := por_if h
        refine WR2.of op_catA ⟨_, _, _, _, rfl, rfl, .inl (.inl (sb.tup ea)), .inl (.inl (sb.tup ec)), by rw [ra.length, rc.length]; exact big_le hc, fun e => ?_, fun _ e => ?_, fun _ _ => h.tupF sb (ra.append rc)⟩
        · subst e
          cases ra
          exact h.rep sb (.tup ec rc)
        · subst e
          cases rc
          rw [List.append_nil] at h
          exact h.rep sb (.tup ea ra)
      | _ => exact h.elim
    | _ => exact h.elim
  | sub => cases rx with
    | int i => cases ry with
      | int j => exact WR2.of op_sub ⟨i, j, rfl, rfl, h.flat sb rfl (.int _)⟩
      | _ => exact h.elim
    | _ => cases ry <;> exact h.elim
  | mul => cases rx with
    | int i => cases ry with
      | int j =>
        obtain ⟨hc, h⟩ := por_if h
        exact WR2.of op_mul ⟨i, j, rfl, rfl, hc, h.flat sb rfl (.int _)⟩
      | _ => exact h.elim
    | lst ea ra => cases ry with
      | int j =>
        obtain ⟨⟨h1, h2, h3⟩, h⟩ := por_if h
        exact WR2.of op_repS ⟨_, j, _, rfl, rfl, sb.rd ea, by omega, by omega, by rw [ra.length]; exact big_le h3, h.lst sb (ra.rep _)⟩
      | _ => exact h.elim
    | str a => cases ry with
      | int j =>
        obtain ⟨⟨h1, h2, h3⟩, h⟩ := por_if h
        exact WR2.of op_repStr ⟨a, j, rfl, rfl, h2, h1, big_le h3, h.flat sb rfl (.str _)⟩
      | _ => exact h.elim
    | _ => cases ry <;> exact h.elim
  | fdiv => cases rx with
    | int i => cases ry with
      | int j =>
        obtain ⟨hc, h⟩ := por_if h
        exact WR2.of op_fdiv ⟨i, j, rfl, rfl, hc, h.flat sb rfl (.int _)⟩
      | _ => exact h.elim
    | _ => cases ry <;> exact h.elim
  | mod => cases rx with
    | int i => cases ry with
      | int j =>
        obtain ⟨hc, h⟩ := por_if h
        exact WR2.of op_mod ⟨i, j, rfl, rfl, hc, h.flat sb rfl (.int _)⟩
      | _ => exact h.elim
    | _ => cases ry <;> exact h.elim
  | pow => cases rx with
    | int i => cases ry with
      | int j =>
        obtain ⟨hc, h⟩ := por_if h
        exact WR2.of op_pow ⟨i, j, rfl, rfl, hc, h.flat sb rfl (.int _)⟩
      | _ => exact h.elim
    | _ => cases ry <;> exact h.elim
  | shl => cases rx with
    | int i => cases ry with
      | int j =>
        obtain ⟨hc, h⟩ := por_if h
        exact WR2.of op_shl ⟨i, j, rfl, rfl, hc, h.flat sb rfl (.int _)⟩
      | _ => exact h.elim
    | _ => cases ry <;> exact h.elim
  | shr => cases rx with
    | int i => cases ry with
      | int j =>
        obtain ⟨hc, h⟩ := por_if h
        exact WR2.of op_shr ⟨i, j, rfl, rfl, hc, h.flat sb rfl (.int _)⟩
      | _ => exact h.elim
    | _ => cases ry <;> exact h.elim
  | band => cases rx with
    | int i => cases ry with
      | int j => exact WR2.of op_and ⟨i, j, rfl, rfl, h.flat sb rfl (.int _)⟩
      | _ => exact h.elim
    | _ => cases ry <;> exact h.elim
end
end Pv
namespace Pv
open PySem PySem.Spec PyProof.Rows L2
section
variable {X : Cx} {K : Fg} {G H : Hp} {σ : L2.St} {Q : VK}
/-! ### data as the layer has it -/
mutual
theorem Rep.dp (sb : Sub G H) : ∀ {d : D} {v : V}, Rep K G v d → plain d = true → Dp K H v (py d)
  | _, _, .non, _ => .non
  | _, _, .bl b, _ => .bl b
  | _, _, .int i, _ => .int i
  | _, _, .str s, _ => .str (sv s)
  | _, _, .fn x, h => by cases h
  | .lst ds, _, .lst e r, h => by
    have h' : plainL ds = true := by simpa only [plain] using h
    have := Dp.lst (.inl (sb.rd e)) (RepL.dp sb r h')
    simpa only [py] using this
  | .tup ds, _, .tup e r, h => by
    have h' : plainL ds = true := by simpa only [plain] using h
    have := Dp.tup (.inl (.inl (sb.tup e))) (RepL.dp sb r h')
    simpa only [py] using this
  | _, _, .dicK l e r, h => by simp [plain] at h
  | _, _, .dicT l e r, h => by simp [plain] at h
theorem RepL.dp (sb : Sub G H) : ∀ {ds : List D} {vs : List V}, RepL K G vs ds → plainL ds = true → DpAll K H vs (pyL ds)
  | _, _, .nil, _ => by simp only [pyL]; exact .nil
  | d :: ds, _, .cons a r, h => by
    have h' : plain d = true ∧ plainL ds = true := by simpa only [plainL, Bool.and_eq_true] using h
    simp only [pyL]
    exact .cons (Rep.dp sb a h'.1) (RepL.dp sb r h'.2)
end
theorem shp_and {d : D} (h : shp d = true) : plain d = true ∧ SeqAt.shaped (py d) = true := by
  unfold shp at h
  rwa [Bool.and_eq_true] at h
theorem eqD_val (hu : X.A.units + 64 < cLine) {x y : V} {dx dy : D} (rx : Rep X.K G x dx) (ry : Rep X.K G y dy) (sb : Sub G H) {b : Bool} (h : oEq dx dy = some b) (q : Q (.bl b) H) : WR2 X (compareOp .Eq) x y H Q := by
  by_cases hs : ∃ a c, dx = .str a ∧ dy = .str c
  · obtain ⟨a, c, rfl, rfl⟩ := hs
    cases rx
    cases ry
    have h' : decide (a = c) = b := Option.some.inj h
    refine WR2.of op_eq ⟨rfl, ?_⟩
    have e : decide (V.str (sv a) = V.str (sv c)) = b := by
      rw [← h']
      by_cases z : a = c
      · subst z; simp
      · rw [decide_eq_false z]; exact decide_eq_false fun e => z (sv_inj (V.str.inj e))
    rw [e]; exact q
  · have h2 : (if shp dx && shp dy then some (PyData.eqv (py dx) (py dy)) else none) = some b := by
      unfold oEq at h
      split at h
      · exact (hs ⟨_, _, rfl, rfl⟩).elim
      · exact h
    by_cases hc : (shp dx && shp dy) = true
    · rw [if_pos hc] at h2
      rw [Bool.and_eq_true] at hc
      obtain ⟨p1, s1⟩ := shp_and hc.1
      obtain ⟨p2, s2⟩ := shp_and hc.2
      cases h2
      exact WR2.of (op_eqD hu) ⟨_, _, rx.dp sb p1, ry.dp sb p2, s1, s2, q⟩
    · rw [if_neg hc] at h2; cases h2
theorem neD_val (hu : X.A.units + 64 < cLine) {x y : V} {dx dy : D} (rx : Rep X.K G x dx) (ry : Rep X.K G y dy) (sb : Sub G H) {b : Bool} (h : oEq dx dy = some b) (q : Q (.bl (!b)) H) : WR2 X (compareOp .NotEq) x y H Q := by
  by_cases hs : ∃ a c, dx = .str a ∧ dy = .str c
  · obtain ⟨a, c, rfl, rfl⟩ := hs
    cases rx
    cases ry
    have h' : decide (a = c) = b := Option.some.inj h
    refine WR2.of op_ne ⟨rfl, ?_⟩
    have e : decide (V.str (sv a) = V.str (sv c)) = b := by
      rw [← h']
      by_cases z : a = c
      · subst z; simp
      · rw [decide_eq_false z]; exact decide_eq_false fun e => z (sv_inj (V.str.inj e))
    rw [e]; exact q
  · have h2 : (if shp dx && shp dy then some (PyData.eqv (py dx) (py dy)) else none) = some b := by
      unfold oEq at h
      split at h
      · exact (hs ⟨_, _, rfl, rfl⟩).elim
      · exact h
    by_cases hc : (shp dx && shp dy) = true
    · rw [if_pos hc] at h2
      rw [Bool.and_eq_true] at hc
      obtain ⟨p1, s1⟩ := shp_and hc.1
      obtain ⟨p2, s2⟩ := shp_and hc.2
      cases h2
      exact WR2.of (op_neD hu) ⟨_, _, rx.dp sb p1, ry.dp sb p2, s1, s2, q⟩
    · rw [if_neg hc] at h2; cases h2
/-! ### flat values -/
theorem Rep.flatV {v : V} {d : D} (r : Rep K G v d) (f : flatE d = true) : L2.flatV v = true := by
  cases r <;> first | rfl | cases f
theorem eqV_py {v w : V} {d e : D} (r : Rep K G v d) (r' : Rep K G w e) (f : flatE d = true) (f' : flatE e = true) : eqV v w = PyData.eqv (py d) (py e) := by
  cases r <;> cases r' <;> first | rfl | cases f | cases f' | (simp [eqV, py, PyData.eqv])
theorem RepL.allFlat : ∀ {vs : List V} {ds : List D}, RepL K G vs ds → ds.all flatE = true → vs.all L2.flatV = true
  | _, _, .nil, _ => rfl
  | _, _, .cons a r, h => by
    rw [List.all_cons, Bool.and_eq_true] at h ⊢
    exact ⟨a.flatV h.1, r.allFlat h.2⟩
theorem RepL.inV {x : V} {dx : D} (rx : Rep K G x dx) (fx : flatE dx = true) : ∀ {vs : List V} {ds : List D}, RepL K G vs ds → ds.all flatE = true → L2.inV x vs = ds.any fun z => PyData.eqv (py z) (py dx)
  | _, _, .nil, _ => rfl
  | _, _, .cons a r, h => by
    rw [List.all_cons, Bool.and_eq_true] at h
    have ih := RepL.inV rx fx r h.2
    unfold L2.inV at ih ⊢
    rw [List.any_cons, List.any_cons, ih, eqV_py a rx h.1 fx]
/-! ### dicts -/
theorem keyD_kq {k j : Key} : kq1 (keyD k) (keyD j) = decide (k = j) := by
  cases k with
  | inl a => cases j with
    | inl b => simp [keyD, kq1]
    | inr b => simp [keyD, kq1]
  | inr a => cases j with
    | inl b => simp [keyD, kq1]
    | inr b =>
      simp only [keyD, kq1, Sum.inr.injEq]
      by_cases e : a = b
      · subst e; simp
      · rw [decide_eq_false e]
        refine decide_eq_false fun z => e ?_
        rw [← sv_to a, ← sv_to b, z]
theorem keyD_kqL : ∀ {k j : List Key}, kqL (k.map keyD) (j.map keyD) = decide (k = j)
  | [], [] => by simp [kqL]
  | [], _ :: _ => by simp [kqL]
  | _ :: _, [] => by simp [kqL]
  | a :: k, b :: j => by
    simp only [List.map_cons, kqL, keyD_kq, keyD_kqL, List.cons.injEq]
    by_cases e : a = b <;> by_cases e' : k = j <;> simp [e, e']
theorem keyD_kqS {k j : Key} : kq (keyD k) (keyD j) = decide (k = j) := by
  rw [← keyD_kq]
  cases k <;> cases j <;> rfl
/-- a key's value -/
theorem Rep.key {v : V} {d : D} (r : Rep K G v d) (h : keyOk1 d = true) : ∃ k : Key, v = kV k ∧ d = keyD k := by
  cases r with
  | int i => exact ⟨.inl i, rfl, rfl⟩
  | str s => exact ⟨.inr (sv s), rfl, by simp [keyD]⟩
  | _ => cases h
theorem RepL.keys : ∀ {vs : List V} {ds : List D}, RepL K G vs ds → ds.all keyOk1 = true → ∃ ks : List Key, vs = ks.map kV ∧ ds = ks.map keyD
  | _, _, .nil, _ => ⟨[], rfl, rfl⟩
  | _, _, .cons a r, h => by
    rw [List.all_cons, Bool.and_eq_true] at h
    obtain ⟨k, e1, e2⟩ := a.key h.1
    obtain ⟨ks, e3, e4⟩ := r.keys h.2
    exact ⟨k :: ks, by rw [e1, e3]; rfl, by rw [e2, e4]; rfl⟩
/-- what a dict holds -/
theorem val_get {κ : Type} [DecidableEq κ] {g : κ → D} (hg : ∀ k j, kq (g k) (g j) = decide (k = j)) (k : κ) : ∀ {ks : List κ} {xs : List V} {ds : List D}, RepL K G xs ds → ks.length = xs.length →
    (dGet ((ks.map g).zip ds) (g k) = none ∧ valV (ks.zip xs) k = none) ∨ ∃ d v, dGet ((ks.map g).zip ds) (g k) = some d ∧ valV (ks.zip xs) k = some v ∧ Rep K G v d
  | [], _, _, _, _ => .inl ⟨rfl, rfl⟩
  | _ :: _, _, _, .nil, h => by simp at h
  | j :: ks, v :: xs, d :: ds, .cons a r, h => by
    have ih := val_get hg k r (Nat.succ.inj h)
    by_cases e : j = k
    · refine .inr ⟨d, v, ?_, ?_, a⟩
      · simp [dGet, hg, e]
      · exact valV_pos e
    · have e1 : valV ((j :: ks).zip (v :: xs)) k = valV (ks.zip xs) k := valV_neg e
      have e2 : dGet (((j :: ks).map g).zip (d :: ds)) (g k) = dGet ((ks.map g).zip ds) (g k) := by simp [dGet, hg, e]
      rw [e1, e2]
      exact ih
theorem dget_val {y : V} {a : Addr} {t : Bool} {kvs : List (D × D)} {dk : D} (rd : Rep K G (.ref a) (.dic t kvs)) (ry : Rep K G y dk) (sb : Sub G H) (hk : keyOk t dk = true) :
    (dGet kvs dk = none ∧ DGet H a y none) ∨ ∃ d v, dGet kvs dk = some d ∧ DGet H a y (some v) ∧ Rep K G v d := by
  cases rd with
  | dicK l e r =>
    obtain ⟨k, e1, e2⟩ := ry.key hk
    subst e1 e2
    rcases val_get (fun k j => keyD_kqS) k r l with ⟨z1, z2⟩ | ⟨d, v, z1, z2, z3⟩
    · exact .inl ⟨z1, .inl ⟨_, k, sb.rd e, rfl, z2.symm⟩⟩
    · exact .inr ⟨d, v, z1, .inl ⟨_, k, sb.rd e, rfl, z2.symm⟩, z3⟩
  | dicT l e r =>
    cases ry with
    | tup eb rb =>
      obtain ⟨k, e1, e2⟩ := rb.keys hk
      subst e1 e2
      rcases val_get (g := fun k : List Key => D.tup (k.map keyD)) (fun k j => keyD_kqL) k r l with ⟨z1, z2⟩ | ⟨d, v, z1, z2, z3⟩
      · exact .inl ⟨z1, .inr ⟨_, k, _, sb.rd e, rfl, sb.tup eb, z2.symm⟩⟩
      · exact .inr ⟨d, v, z1, .inr ⟨_, k, _, sb.rd e, rfl, sb.tup eb, z2.symm⟩, z3⟩
    | _ => cases hk
/-! ### comparisons -/
theorem in_val (hu : X.A.units + 65 < cLine) {x y : V} {dx dy : D} (rx : Rep X.K G x dx) (ry : Rep X.K G y dy) (sb : Sub G H) {b : Bool} (h : oIn dx dy = some b) (q : Q (.bl b) H) : WR2 X (compareOp .In) x y H Q := by
  cases ry with
  | lst e r =>
    rename_i a xs ds
    by_cases hc : (shp dx && shp (.lst ds)) = true
    · unfold oIn at h
      dsimp only at h
      rw [if_pos hc] at h
      rw [Bool.and_eq_true] at hc
      obtain ⟨p1, s1⟩ := shp_and hc.1
      obtain ⟨p2, s2⟩ := shp_and hc.2
      cases h
      have d2 := Rep.dp sb (Rep.lst e r) p2
      have e2 : py (.lst ds) = .list (pyL ds) := by simp only [py]
      rw [e2] at d2 s2
      refine WR2.of (op_inD hu) ⟨_, _, rx.dp sb p1, d2, s1, s2, ?_⟩
      have aux : ∀ ds : List D, ((pyL ds).any fun z => PyData.eqv z (py dx)) = ds.any fun z => PyData.eqv (py z) (py dx) := by
        intro ds
        induction ds with
        | nil => simp [pyL]
        | cons d ds ih => simp only [pyL, List.any_cons, ih]
      rw [aux]
      exact q
    · unfold oIn at h
      dsimp only at h
      rw [if_neg hc] at h; cases h
  | tup e r =>
    rename_i a xs ds
    by_cases hc : (flatE dx && ds.all flatE) = true
    · unfold oIn at h
      dsimp only at h
      rw [if_pos hc] at h
      rw [Bool.and_eq_true] at hc
      cases h
      refine WR2.of op_in_seq ⟨_, _, rfl, .inr (.inl (.inl (sb.tup e))), rx.flatV hc.1, r.allFlat hc.2, ?_⟩
      rw [if_neg Bool.false_ne_true, r.inV rx hc.1 hc.2]
      exact q
    · unfold oIn at h
      dsimp only at h
      rw [if_neg hc] at h; cases h
  | str s =>
    unfold oIn at h
    dsimp only at h
    split at h
    · rename_i c
      cases rx
      cases h
      refine WR2.of op_in_sign ⟨c, sv s, rfl, rfl, ?_⟩
      exact q
    · cases h
  | dicK l e r =>
    unfold oIn at h
    dsimp only at h
    by_cases hk : keyOk false dx = true
    · rw [if_pos hk] at h
      cases h
      intro pins s σ v u I r1 r2
      cases (show u = Value.ref _ from r2)
      rcases dget_val (.dicK l e r) rx sb hk with ⟨z1, z2⟩ | ⟨d, w, z1, z2, z3⟩
      · rw [z1] at q
        exact d_in (by omega) I z2 r1 fun s' I' => ⟨.bl _, H, I', rfl, q⟩
      · rw [z1] at q
        exact d_in (by omega) I z2 r1 fun s' I' => ⟨.bl _, H, I', rfl, q⟩
    · rw [if_neg hk] at h; cases h
  | dicT l e r =>
    unfold oIn at h
    dsimp only at h
    by_cases hk : keyOk true dx = true
    · rw [if_pos hk] at h
      cases h
      intro pins s σ v u I r1 r2
      cases (show u = Value.ref _ from r2)
      rcases dget_val (.dicT l e r) rx sb hk with ⟨z1, z2⟩ | ⟨d, w, z1, z2, z3⟩
      · rw [z1] at q
        exact d_in (by omega) I z2 r1 fun s' I' => ⟨.bl _, H, I', rfl, q⟩
      · rw [z1] at q
        exact d_in (by omega) I z2 r1 fun s' I' => ⟨.bl _, H, I', rfl, q⟩
    · rw [if_neg hk] at h; cases h
  | _ => cases h
theorem nin_val (hu : X.A.units + 65 < cLine) {x y : V} {dx dy : D} (rx : Rep X.K G x dx) (ry : Rep X.K G y dy) (sb : Sub G H) {b : Bool} (h : oIn dx dy = some b) (q : Q (.bl (!b)) H) : WR2 X (compareOp .NotIn) x y H Q := by
  cases ry with
  | lst e r =>
    rename_i a xs ds
    by_cases hc : (shp dx && shp (.lst ds)) = true
    · unfold oIn at h
      dsimp only at h
      rw [if_pos hc] at h
      rw [Bool.and_eq_true] at hc
      obtain ⟨p1, s1⟩ := shp_and hc.1
      obtain ⟨p2, s2⟩ := shp_and hc.2
      cases h
      have d2 := Rep.dp sb (Rep.lst e r) p2
      have e2 : py (.lst ds) = .list (pyL ds) := by simp only [py]
      rw [e2] at d2 s2
      refine WR2.of (op_notInD hu) ⟨_, _, rx.dp sb p1, d2, s1, s2, ?_⟩
      have aux : ∀ ds : List D, ((pyL ds).any fun z => PyData.eqv z (py dx)) = ds.any fun z => PyData.eqv (py z) (py dx) := by
        intro ds
        induction ds with
        | nil => simp [pyL]
        | cons d ds ih => simp only [pyL, List.any_cons, ih]
      rw [aux]
      exact q
    · unfold oIn at h
      dsimp only at h
      rw [if_neg hc] at h; cases h
  | tup e r =>
    rename_i a xs ds
    by_cases hc : (flatE dx && ds.all flatE) = true
    · unfold oIn at h
      dsimp only at h
      rw [if_pos hc] at h
      rw [Bool.and_eq_true] at hc
      cases h
      refine WR2.of op_notIn_seq ⟨_, _, rfl, .inr (.inl (.inl (sb.tup e))), rx.flatV hc.1, r.allFlat hc.2, ?_⟩
      rw [if_pos rfl, r.inV rx hc.1 hc.2]
      exact q
    · unfold oIn at h
      dsimp only at h
      rw [if_neg hc] at h; cases h
  | str s =>
    unfold oIn at h
    dsimp only at h
    split at h
    · rename_i c
      cases rx
      cases h
      refine WR2.of op_notIn_sign ⟨c, sv s, rfl, rfl, ?_⟩
      exact q
    · cases h
  | dicK l e r =>
    unfold oIn at h
    dsimp only at h
    by_cases hk : keyOk false dx = true
    · rw [if_pos hk] at h
      cases h
      intro pins s σ v u I r1 r2
      cases (show u = Value.ref _ from r2)
      rcases dget_val (.dicK l e r) rx sb hk with ⟨z1, z2⟩ | ⟨d, w, z1, z2, z3⟩
      · rw [z1] at q
        exact d_notIn (by omega) I z2 r1 fun s' I' => ⟨.bl _, H, I', rfl, q⟩
      · rw [z1] at q
        exact d_notIn (by omega) I z2 r1 fun s' I' => ⟨.bl _, H, I', rfl, q⟩
    · rw [if_neg hk] at h; cases h
  | dicT l e r =>
    unfold oIn at h
    dsimp only at h
    by_cases hk : keyOk true dx = true
    · rw [if_pos hk] at h
      cases h
      intro pins s σ v u I r1 r2
      cases (show u = Value.ref _ from r2)
      rcases dget_val (.dicT l e r) rx sb hk with ⟨z1, z2⟩ | ⟨d, w, z1, z2, z3⟩
      · rw [z1] at q
        exact d_notIn (by omega) I z2 r1 fun s' I' => ⟨.bl _, H, I', rfl, q⟩
      · rw [z1] at q
        exact d_notIn (by omega) I z2 r1 fun s' I' => ⟨.bl _, H, I', rfl, q⟩
    · rw [if_neg hk] at h; cases h
  | _ => cases h
theorem cmp_val (hu : X.A.units + 65 < cLine) (c : COp) {x y : V} {dx dy : D} (rx : Rep X.K G x dx) (ry : Rep X.K G y dy) (sb : Sub G H) (h : POr X.K G H ((oCmp c dx dy).map fun b => (.bl b, 0)) Q) : WR2 X (compareOp (cOp c)) x y H Q := by
  obtain ⟨b, e, h⟩ := por_map h
  have q : Q (.bl b) H := h.flat sb rfl (.bl b)
  cases c with
  | eq => exact eqD_val (by omega) rx ry sb e q
  | ne =>
    have e' : (oEq dx dy).map (!·) = some b := e
    cases z : oEq dx dy with
    | none => rw [z] at e'; cases e'
    | some b' =>
      rw [z] at e'
      cases e'
      exact neD_val (by omega) rx ry sb z q
  | inn => exact in_val hu rx ry sb e q
  | nin =>
    have e' : (oIn dx dy).map (!·) = some b := e
    cases z : oIn dx dy with
    | none => rw [z] at e'; cases e'
    | some b' =>
      rw [z] at e'
      cases e'
      exact nin_val hu rx ry sb z q
  | lt => cases rx with
    | int i => cases ry with
      | int j => cases e; exact WR2.of op_lt ⟨i, j, rfl, rfl, q⟩
      | _ => cases e
    | _ => cases ry <;> cases e
  | le => cases rx with
    | int i => cases ry with
      | int j => cases e; exact WR2.of op_le ⟨i, j, rfl, rfl, q⟩
      | _ => cases e
    | _ => cases ry <;> cases e
  | gt => cases rx with
    | int i => cases ry with
      | int j => cases e; exact WR2.of op_gt ⟨i, j, rfl, rfl, q⟩
      | _ => cases e
    | _ => cases ry <;> cases e
  | ge => cases rx with
    | int i => cases ry with
      | int j => cases e; exact WR2.of op_ge ⟨i, j, rfl, rfl, q⟩
      | _ => cases e
    | _ => cases ry <;> cases e
/-! ### is None, is True -/
def cV : Const → V
  | .none => .non
  | .bool b => .bl b
  | _ => .non
theorem isn_val (neg : Bool) (c : Const) {x : V} {dx : D} (rx : Rep X.K G x dx) (sb : Sub G H) (h : POr X.K G H ((isC c dx).map fun b => (.bl (if neg then !b else b), 0)) Q) : WR2 X (compareOp (isOp neg)) x (cV c) H Q := by
  obtain ⟨b, e, h⟩ := por_map h
  have q : Q (.bl (if neg then !b else b)) H := h.flat sb rfl (.bl _)
  cases c with
  | none =>
    have eb : b = decide (x = .non) := by
      cases rx <;> (cases e; simp)
    cases neg with
    | true => exact WR2.of op_notN ⟨rfl, by rw [← eb]; exact q⟩
    | false => exact WR2.of op_isN ⟨rfl, by rw [← eb]; exact q⟩
  | bool k => cases rx with
    | bl a =>
      cases e
      cases neg with
      | true => exact WR2.of op_notBl ⟨a, k, rfl, rfl, q⟩
      | false => exact WR2.of op_isBl ⟨a, k, rfl, rfl, q⟩
    | _ => cases e
  | _ => cases e
/-! ### o[i] -/
def WIx (X : Cx) : R2 := fun x y H Q => ∀ (value slice : Expr) (pins : List (Addr × Obj)) (s : Shared) (σ : L2.St) (v u : Value), Inv X pins σ H s → RelV x v → RelV y u →
  subscripted slice false v u = operate [v, u] (getItem v u) → wpAny (model X.prog X.w) X.A (subscriptTail value slice v u) (EP X pins σ Q) X.xe s
theorem wix_self : IxR X (WIx X) := fun value slice pins s σ H x y v u Q I r1 r2 h hs => h value slice pins s σ v u I r1 r2 hs
theorem WIx.of {r : R2} (o : IxR X r) {x y : V} (h : r x y H Q) : WIx X x y H Q := fun value slice pins s σ v u I r1 r2 hs => o value slice pins s σ H x y v u Q I r1 r2 h hs
theorem RepL.atI {vs : List V} {ds : List D} (r : RepL K G vs ds) {i : Int} {d : D} (h : L2.atI ds i = some d) : ∃ v, L2.atI vs i = some v ∧ Rep K G v d := by
  unfold L2.atI at h ⊢
  rw [r.length]
  cases e : ixN ds.length i with
  | none => rw [e] at h; cases h
  | some j =>
    rw [e] at h
    exact r.get h
theorem por_at {α : Type} {ds : List α} {i : Int} {g : α → D × Nat} (h : POr K G H ((L2.atI ds i).map g) Q) : ∃ a, L2.atI ds i = some a ∧ POr K G H (some (g a)) Q := por_map h
end
end Pv
namespace Pv
open PySem PySem.Spec PyProof.Rows L2
section
variable {X : Cx} {K : Fg} {G H : Hp} {σ : L2.St} {Q : VK}
theorem ix_dict (hu : X.A.units + 1 < cLine) : IxR X (fun x y H Q => ∃ a v, x = .ref a ∧ DGet H a y (some v) ∧ Q v H) := by
  intro value slice pins s σ H x y v u Q I rx ry h hs
  obtain ⟨a, w', rfl, g, q⟩ := h
  cases (show v = Value.ref a from rx)
  have hT := dict_typeIs I g
  have h₂ : wpAny (model X.prog X.w) X.A (getItem (.ref a) u) (EP X pins σ Q) X.xe s := d_getItem hu I g ry fun w2 s2 I2 r2 => ⟨w', H, I2, r2, q⟩
  unfold subscriptTail
  refine wpAny_bind ?_
  rw [getitemInPython_of_ne hT.not_modules]
  refine wpAny_bind (wpAny_specialOf hT PySem.F.slot_dict_getitem.lookup ?_)
  have fin : wpAny (model X.prog X.w) X.A (subscripted slice false (.ref a) u) (fun r s₃ => wpAny (model X.prog X.w) X.A (letTemporaryGo value (.ref a) r >>= fun _ => pure r) (EP X pins σ Q) X.xe s₃) X.xe s := by
    rw [hs]
    exact wpAny_operating (wpAny_mono h₂ (fun r s₃ h₃ => wpAny_bind (wpAny_letTemporaryGo (wpAny_pure h₃))) fun _ _ x => x)
  first
    | exact wpAny_pure (wpAny_bind fin)
    | exact wpAny_bind (wpAny_pure (wpAny_bind fin))
    | exact wpAny_bind fin
theorem ix_val (hu : X.A.units + 1 < cLine) {x y : V} {dx dy : D} (rx : Rep X.K G x dx) (ry : Rep X.K G y dy) (sb : Sub G H) (h : POr X.K G H (oIx dx dy) Q) : WIx X x y H Q := by
  cases rx with
  | lst e r => cases ry with
    | int i =>
      obtain ⟨d, ed, h⟩ := por_map h
      obtain ⟨v, ev, rv⟩ := r.atI ed
      exact WIx.of ix_list ⟨_, _, i, v, rfl, rfl, .inl (sb.rd e), ev, h.rep sb rv⟩
    | _ => exact h.elim
  | scr e r => cases ry with
    | int i =>
      obtain ⟨d, ed, h⟩ := por_map h
      obtain ⟨v, ev, rv⟩ := r.atI ed
      exact WIx.of ix_list ⟨_, _, i, v, rfl, rfl, e H fun o ho => sb.rd ho, ev, h.rep sb rv⟩
    | _ => exact h.elim
  | tup e r => cases ry with
    | int i =>
      obtain ⟨d, ed, h⟩ := por_map h
      obtain ⟨v, ev, rv⟩ := r.atI ed
      exact WIx.of ix_tup ⟨_, _, i, v, rfl, rfl, .inl (.inl (sb.tup e)), ev, h.rep sb rv⟩
    | _ => exact h.elim
  | str s => cases ry with
    | int i =>
      obtain ⟨hc, h⟩ := por_if h
      obtain ⟨d, ed, h⟩ := por_map h
      exact WIx.of ix_str ⟨sv s, i, d, rfl, rfl, by rw [sv_len]; exact big_le hc, by simpa using ed, h.flat sb rfl (.str [d])⟩
    | _ => exact h.elim
  | dicK l e r =>
    obtain ⟨hc, h⟩ := por_if h
    obtain ⟨d, ed, h⟩ := por_map h
    rcases dget_val (.dicK l e r) ry sb hc with ⟨z1, z2⟩ | ⟨d', w, z1, z2, z3⟩
    · rw [ed] at z1; cases z1
    · rw [ed] at z1; cases z1
      exact WIx.of (ix_dict hu) ⟨_, w, rfl, z2, h.rep sb z3⟩
  | dicT l e r =>
    obtain ⟨hc, h⟩ := por_if h
    obtain ⟨d, ed, h⟩ := por_map h
    rcases dget_val (.dicT l e r) ry sb hc with ⟨z1, z2⟩ | ⟨d', w, z1, z2, z3⟩
    · rw [ed] at z1; cases z1
    · rw [ed] at z1; cases z1
      exact WIx.of (ix_dict hu) ⟨_, w, rfl, z2, h.rep sb z3⟩
  | _ => cases ry <;> exact h.elim
/-! ### built-ins of one thing -/
def b1F : B1 → Value
  | .len => .builtin "len" | .abs => .builtin "abs" | .int => .type "int" | .str => .type "str" | .list => .type "list" | .sorted => .builtin "sorted" | .sum => .builtin "sum" | .max => .builtin "max" | .min => .builtin "min" | .tuple => .type "tuple"
theorem RepL.ints : ∀ {vs : List V} {ds : List D} {ns : List Int}, RepL K G vs ds → intsOf ds = some ns → vs = ns.map V.int
  | _, _, _, .nil, h => by cases h; rfl
  | v :: vs, d :: ds, ns, .cons a r, h => by
    cases a with
    | int i =>
      have h' : (intsOf ds).map (i :: ·) = some ns := h
      cases e : intsOf ds with
      | none => rw [e] at h'; cases h'
      | some ms =>
        rw [e] at h'
        cases h'
        rw [r.ints e]; rfl
    | _ => cases h
theorem ints_rep : ∀ ns : List Int, RepL K G (ns.map V.int) (ns.map D.int)
  | [] => .nil
  | i :: r => .cons (.int i) (ints_rep r)
theorem insI_perm (i : Int) : ∀ l : List Int, (insI i l).Perm (i :: l)
  | [] => .refl _
  | j :: r => by
    unfold insI
    split
    · exact .refl _
    · exact ((insI_perm i r).cons j).trans (.swap i j r)
theorem sortI_perm : ∀ l : List Int, (sortI l).Perm l
  | [] => .refl _
  | i :: r => (insI_perm i (sortI r)).trans ((sortI_perm r).cons i)
theorem insI_sorted (i : Int) : ∀ {l : List Int}, l.Pairwise (· ≤ ·) → (insI i l).Pairwise (· ≤ ·)
  | [], _ => by simp [insI]
  | j :: r, h => by
    obtain ⟨h1, h2⟩ := List.pairwise_cons.mp h
    unfold insI
    split
    · rename_i hij
      exact List.pairwise_cons.mpr ⟨fun a ha => by
        rcases List.mem_cons.mp ha with e | e
        · rw [e]; exact hij
        · have := h1 a e; omega, h⟩
    · rename_i hij
      refine List.pairwise_cons.mpr ⟨fun a ha => ?_, insI_sorted i h2⟩
      rcases List.mem_cons.mp ((insI_perm i r).mem_iff.mp ha) with e | e
      · omega
      · exact h1 a e
theorem sortI_sorted : ∀ l : List Int, (sortI l).Pairwise (· ≤ ·)
  | [] => .nil
  | i :: r => insI_sorted i (sortI_sorted r)
theorem sorted_unique : ∀ {l m : List Int}, l.Perm m → l.Pairwise (· ≤ ·) → m.Pairwise (· ≤ ·) → l = m
  | [], m, p, _, _ => (List.nil_perm.mp p).symm
  | i :: l, [], p, _, _ => by have := p.length_eq; simp at this
  | i :: l, j :: m, p, h, h' => by
    obtain ⟨h1, h2⟩ := List.pairwise_cons.mp h
    obtain ⟨h3, h4⟩ := List.pairwise_cons.mp h'
    have e : i = j := by
      have a : i ∈ j :: m := p.mem_iff.mp List.mem_cons_self
      have b : j ∈ i :: l := p.mem_iff.mpr List.mem_cons_self
      rcases List.mem_cons.mp a with a | a
      · exact a
      · rcases List.mem_cons.mp b with b | b
        · exact b.symm
        · have := h3 i a; have := h1 j b; omega
    subst e
    rw [sorted_unique (List.perm_cons i |>.mp p) h2 h4]
theorem foldl_max (l : List Int) : ∀ a : Int, (l.foldl max a = a ∨ l.foldl max a ∈ l) ∧ a ≤ l.foldl max a ∧ ∀ y ∈ l, y ≤ l.foldl max a := by
  induction l with
  | nil => intro a; exact ⟨.inl rfl, Int.le_refl _, fun y h => by cases h⟩
  | cons b l ih =>
    intro a
    obtain ⟨h1, h2, h3⟩ := ih (max a b)
    rw [List.foldl_cons]
    refine ⟨?_, by omega, fun y hy => ?_⟩
    · rcases h1 with h1 | h1
      · rcases Int.le_total a b with z | z
        · exact .inr (by rw [h1]; have : max a b = b := by omega
                         rw [this]; exact List.mem_cons_self)
        · exact .inl (by rw [h1]; omega)
      · exact .inr (List.mem_cons_of_mem _ h1)
    · rcases List.mem_cons.mp hy with e | e
      · rw [e]; omega
      · exact h3 y e
theorem foldl_min (l : List Int) : ∀ a : Int, (l.foldl min a = a ∨ l.foldl min a ∈ l) ∧ l.foldl min a ≤ a ∧ ∀ y ∈ l, l.foldl min a ≤ y := by
  induction l with
  | nil => intro a; exact ⟨.inl rfl, Int.le_refl _, fun y h => by cases h⟩
  | cons b l ih =>
    intro a
    obtain ⟨h1, h2, h3⟩ := ih (min a b)
    rw [List.foldl_cons]
    refine ⟨?_, by omega, fun y hy => ?_⟩
    · rcases h1 with h1 | h1
      · rcases Int.le_total a b with z | z
        · exact .inl (by rw [h1]; omega)
        · exact .inr (by rw [h1]; have : min a b = b := by omega
                         rw [this]; exact List.mem_cons_self)
      · exact .inr (List.mem_cons_of_mem _ h1)
    · rcases List.mem_cons.mp hy with e | e
      · rw [e]; omega
      · exact h3 y e
theorem maxI_is {ns : List Int} {m k : Int} (h : maxI ns = some m) (h1 : k ∈ ns) (h2 : ∀ y, y ∈ ns → y ≤ k) : k = m := by
  cases ns with
  | nil => cases h
  | cons i r =>
    have h' : r.foldl max i = m := Option.some.inj h
    obtain ⟨a, b, c⟩ := foldl_max r i
    rw [h'] at a b c
    have hm : m ∈ i :: r := by
      rcases a with a | a
      · rw [a]; exact List.mem_cons_self
      · exact List.mem_cons_of_mem _ a
    have := h2 m hm
    rcases List.mem_cons.mp h1 with e | e
    · omega
    · have := c k e; omega
theorem minI_is {ns : List Int} {m k : Int} (h : minI ns = some m) (h1 : k ∈ ns) (h2 : ∀ y, y ∈ ns → k ≤ y) : k = m := by
  cases ns with
  | nil => cases h
  | cons i r =>
    have h' : r.foldl min i = m := Option.some.inj h
    obtain ⟨a, b, c⟩ := foldl_min r i
    rw [h'] at a b c
    have hm : m ∈ i :: r := by
      rcases a with a | a
      · rw [a]; exact List.mem_cons_self
      · exact List.mem_cons_of_mem _ a
    have := h2 m hm
    rcases List.mem_cons.mp h1 with e | e
    · omega
    · have := c k e; omega
theorem b1_val (hc : X.calm = true) (b : B1) {x : V} {dx : D} (rx : Rep X.K G x dx) (sb : Sub G H) (h : POr X.K G H (oB1 b dx) Q) : WC X (b1F b) [x] H Q := by
  cases b with
  | len => cases rx with
    | lst e r => exact WC.of call_len ⟨_, _, rfl, .inl ⟨_, .inl (sb.rd e), rfl⟩, by rw [r.length]; exact h.flat sb rfl (.int _)⟩
    | scr e r => exact WC.of call_len ⟨_, _, rfl, .inl ⟨_, e H fun o ho => sb.rd ho, rfl⟩, by rw [r.length]; exact h.flat sb rfl (.int _)⟩
    | tup e r => exact WC.of call_len ⟨_, _, rfl, .inr ⟨_, .inl (.inl (sb.tup e)), rfl⟩, by rw [r.length]; exact h.flat sb rfl (.int _)⟩
    | str s =>
      obtain ⟨hz, h⟩ := por_if h
      exact WC.of call_len ⟨_, s.length, rfl, ⟨by rw [sv_len]; exact big_le hz, (sv_len s).symm⟩, h.flat sb rfl (.int _)⟩
    | _ => exact h.elim
  | abs => cases rx with
    | int i => exact WC.of call_abs ⟨i, rfl, h.flat sb rfl (.int _)⟩
    | _ => exact h.elim
  | int => cases rx with
    | int i => exact WC.of call_int1 (.inl ⟨i, rfl, h.flat sb rfl (.int _)⟩)
    | bl k => exact WC.of call_int1 (.inr ⟨k, rfl, h.flat sb rfl (.int _)⟩)
    | str s =>
      obtain ⟨n, en, h⟩ := por_bind h
      obtain ⟨hz, h⟩ := por_if h
      exact WC.of call_int_str ⟨_, n, rfl, en, by rw [sv_len]; exact hz, h.flat sb rfl (.int _)⟩
    | _ => exact h.elim
  | list => cases rx with
    | lst e r => exact WC.of call_list_of ⟨_, _, rfl, .inl (.inl (sb.rd e)), h.lst sb r⟩
    | tup e r => exact WC.of call_list_of ⟨_, _, rfl, .inr (.inl (.inl (sb.tup e))), h.lst sb r⟩
    | _ => exact h.elim
  | sum => cases rx with
    | lst e r =>
      obtain ⟨ns, en, h⟩ := por_map h
      have ev := r.ints en
      subst ev
      exact WC.of (cr_sum hc) ⟨_, ns, rfl, .inl (sb.rd e), h.flat sb rfl (.int _)⟩
    | _ => exact h.elim
  | max => cases rx with
    | lst e r =>
      obtain ⟨ns, en, h⟩ := por_bind h
      obtain ⟨m, em, h⟩ := por_map h
      have ev := r.ints en
      subst ev
      refine WC.of (cr_max hc) ⟨_, ns, rfl, .inl (sb.rd e), ?_, fun k h1 h2 => ?_⟩
      · cases ns with
        | nil => cases em
        | cons _ _ => simp
      · rw [maxI_is em h1 h2]; exact h.flat sb rfl (.int _)
    | _ => exact h.elim
  | min => cases rx with
    | lst e r =>
      obtain ⟨ns, en, h⟩ := por_bind h
      obtain ⟨m, em, h⟩ := por_map h
      have ev := r.ints en
      subst ev
      refine WC.of (cr_min hc) ⟨_, ns, rfl, .inl (sb.rd e), ?_, fun k h1 h2 => ?_⟩
      · cases ns with
        | nil => cases em
        | cons _ _ => simp
      · rw [minI_is em h1 h2]; exact h.flat sb rfl (.int _)
    | _ => exact h.elim
  | sorted => cases rx with
    | lst e r =>
      obtain ⟨ns, en, h⟩ := por_map h
      have ev := r.ints en
      subst ev
      refine WC.of (cr_sortedI) ⟨_, ns, rfl, .inl (sb.rd e), fun ns' p perm asc hp => ?_⟩
      have : ns' = sortI ns := sorted_unique (perm.trans (sortI_perm ns).symm) asc (sortI_sorted ns)
      rw [this]
      exact h.lst sb (ints_rep _) p hp
    | _ => exact h.elim
  | str => cases rx with
    | int i =>
      obtain ⟨hz, h⟩ := por_if h
      refine WC.of call_str_int ⟨i, rfl, hz, ?_⟩
      have e : (toString i : Str) = sv (textOf i) := (sv_to _).symm
      rw [e]
      exact h.flat sb rfl (.str _)
    | _ => exact h.elim
  | tuple => cases rx <;> exact h.elim
def b2F : B2 → Value
  | .max => .builtin "max" | .min => .builtin "min"
theorem b2_val (hc : X.calm = true) (b : B2) {x y : V} {dx dy : D} (rx : Rep X.K G x dx) (ry : Rep X.K G y dy) (sb : Sub G H) (h : POr X.K G H (oB2 b dx dy) Q) : WC X (b2F b) [x, y] H Q := by
  cases b with
  | max => cases rx with
    | int i => cases ry with
      | int j => exact WC.of (call_max2 hc) ⟨i, j, rfl, h.flat sb rfl (.int _)⟩
      | _ => exact h.elim
    | _ => cases ry <;> exact h.elim
  | min => cases rx with
    | int i => cases ry with
      | int j => exact WC.of (call_min2 hc) ⟨i, j, rfl, h.flat sb rfl (.int _)⟩
      | _ => exact h.elim
    | _ => cases ry <;> exact h.elim
/-! ### isinstance -/
theorem Rep.ty {v : V} {d : D} (r : Rep K G v d) (sb : Sub G H) {t : String} (h : tyName d = some t) : TyX K H v (.type t) := by
  cases r with
  | non => cases h; exact .base .non
  | bl b => cases h; exact .base (.bl b)
  | int i => cases h; exact .base (.int i)
  | str s => cases h; exact .base (.str _)
  | fn x => cases h
  | scr e r => cases h
  | raw a => cases h
  | lst e r =>
    cases h
    rcases sb.rd e with q | ⟨ob, q⟩
    · exact .base (.lst q)
    · exact .base (.frz q)
  | tup e r => cases h; exact .base (.tup (sb.tup e))
  | dicK l e r =>
    cases h
    rcases sb.rd e with q | ⟨ob, q⟩
    · exact .base (.dK q)
    · exact .fDict q
  | dicT l e r => cases h
theorem kit_all {a b : String} (ha : a = "NoneType" ∨ a = "bool" ∨ a = "int" ∨ a = "str" ∨ a = "list" ∨ a = "tuple" ∨ a = "dict") (hb : tyOk b = true) : kitB a b = some (isTy a b) := by
  have hb' : b = "bool" ∨ b = "int" ∨ b = "str" ∨ b = "list" ∨ b = "tuple" ∨ b = "dict" := by simpa [tyOk] using hb
  rcases ha with rfl | rfl | rfl | rfl | rfl | rfl | rfl <;> rcases hb' with rfl | rfl | rfl | rfl | rfl | rfl <;> decide +kernel
theorem ty_names {d : D} {t : String} (h : tyName d = some t) : t = "NoneType" ∨ t = "bool" ∨ t = "int" ∨ t = "str" ∨ t = "list" ∨ t = "tuple" ∨ t = "dict" := by
  unfold tyName at h
  split at h <;> first | (cases h; simp; done) | (cases h)
theorem isin_val (c : String) {x : V} {dx : D} (rx : Rep X.K G x dx) (sb : Sub G H) (h : POr X.K G H ((tyName dx).bind fun t => if tyOk c then some (.bl (isTy t c), 0) else none) Q) : WC X (.builtin "isinstance") [x, .ty c] H Q := by
  obtain ⟨t, et, h⟩ := por_bind h
  obtain ⟨hc, h⟩ := por_if h
  exact WC.of call_isi ⟨x, .ty c, .type t, .type c, _, rfl, .ty c, rx.ty sb et, kit_ty (kit_all (ty_names et) hc), h.flat sb rfl (.bl _)⟩
/-! ### methods of texts -/
def m1Id : M1 → String
  | .join => "str.join" | .count => "str.count" | .startswith => "str.startswith" | .partition => "str.partition" | .split => "str.split" | .strip => "str.strip" | .index => "list.index" | .get => "dict.get"
def WM (X : Cx) (id : String) : V → List V → Hp → VK → Prop := fun x xs H Q => ∀ (pins : List (Addr × Obj)) (s : Shared) (σ : L2.St) (v : Value) (us : List Value), Inv X pins σ H s → RelV x v → Vals xs us →
  wpAny (model X.prog X.w) X.A (call (.builtin id) (v :: us)) (EP X pins σ Q) X.xe s
theorem wm_self {id : String} : MtR X id (WM X id) := fun pins s σ H x xs v us Q I r1 r2 h => h pins s σ v us I r1 r2
theorem WM.of {id : String} {r : V → List V → Hp → VK → Prop} (o : MtR X id r) {x : V} {xs : List V} (h : r x xs H Q) : WM X id x xs H Q := fun pins s σ v us I r1 r2 => o pins s σ H x xs v us Q I r1 r2 h
theorem RepL.strs : ∀ {vs : List V} {ds : List D} {ys : List (List Nat)}, RepL K G vs ds → strsOf ds = some ys → vs = (ys.map sv).map V.str
  | _, _, ys, .nil, h => by cases h; rfl
  | _ :: _, _ :: ds, ys, .cons a r, h => by
    cases a with
    | str s =>
      have h : (strsOf ds).map (s :: ·) = some ys := h
      obtain ⟨l, hl, rfl⟩ := Option.map_eq_some_iff.mp h
      rw [r.strs hl]; rfl
    | _ => cases h
theorem str_rep (x : Str) : Rep K G (.str x) (.str x.cps.toList) := by
  have := Rep.str (K := K) (G := G) x.cps.toList
  rwa [sv_to] at this
theorem strs_rep : ∀ ys : List Str, RepL K G (ys.map V.str) (ys.map fun x => D.str x.cps.toList)
  | [] => .nil
  | y :: ys => .cons (str_rep y) (strs_rep ys)
theorem mk_val (m : M1) (k : Str) {x : V} {dx : D} (rx : Rep X.K G x dx) (sb : Sub G H) (h : POr X.K G H (oMk m k dx) Q) : (∃ a, x = .str a) ∧ WM X (m1Id m) x [.str k] H Q := by
  cases rx with
  | str s => cases m with
    | count => exact ⟨⟨_, rfl⟩, WM.of mt_count ⟨_, k, rfl, rfl, h.flat sb rfl (.int _)⟩⟩
    | startswith => exact ⟨⟨_, rfl⟩, WM.of mt_startswith ⟨_, k, rfl, rfl, h.flat sb rfl (.bl _)⟩⟩
    | split =>
      obtain ⟨⟨h1, h2⟩, h⟩ := por_if h
      refine ⟨⟨_, rfl⟩, WM.of mt_split ⟨_, k, rfl, rfl, h1, by rw [sv_len]; exact big_le h2, fun p hp => ?_⟩⟩
      exact h.lst sb (strs_rep _) p hp
    | partition =>
      obtain ⟨⟨h1, h2⟩, h⟩ := por_if h
      refine ⟨⟨_, rfl⟩, WM.of mt_partition ⟨_, k, rfl, rfl, h1, by rw [sv_len]; exact big_le h2, fun p hp => ?_⟩⟩
      exact h.tup sb (.cons (str_rep _) (.cons (str_rep _) (.cons (str_rep _) .nil))) p hp
    | _ => exact h.elim
  | _ => cases m <;> exact h.elim
theorem ck_val (m : M1) (k : Str) {x : V} {dx : D} (rx : Rep X.K G x dx) (sb : Sub G H) (h : POr X.K G H (oCk m k dx) Q) : WM X (m1Id m) (.str k) [x] H Q := by
  cases rx with
  | lst e r => cases m with
    | join =>
      obtain ⟨ys, ey, h⟩ := por_bind h
      obtain ⟨hz, h⟩ := por_if h
      have e2 := r.strs ey
      subst e2
      refine WM.of mt_join ⟨k, _, ys.map sv, rfl, rfl, .inl (.inl (sb.rd e)), ?_, ?_⟩
      · have e3 : (ys.map sv).map (·.length) = ys.map List.length := by
          rw [List.map_map]
          exact List.map_congr_left fun y _ => sv_len y
        rw [e3, List.length_map]
        exact hz
      · have := h.flat sb rfl (v := .str (Txt.join k (ys.map sv))) (by have := Rep.str (K := X.K) (G := G) (Txt.join k (ys.map sv)).cps.toList; rwa [sv_to] at this)
        exact this
    | _ => exact h.elim
  | _ => cases m <;> exact h.elim
/-! ### all of them -/
def OW (X : Cx) : Op → List V → Hp → VK → Prop
  | .bin b, [x, y], H, Q => WR2 X (binaryOp (bOp b)) x y H Q
  | .neg, [x], H, Q => WR1 X (unaryOp .USub) x H Q
  | .cmp c, [x, y], H, Q => WR2 X (compareOp (cOp c)) x y H Q
  | .isn neg c, [x], H, Q => WR2 X (compareOp (isOp neg)) x (cV c) H Q
  | .ix, [x, y], H, Q => WIx X x y H Q
  | .b1 b, [x], H, Q => WC X (b1F b) [x] H Q
  | .b2 b, [x, y], H, Q => WC X (b2F b) [x, y] H Q
  | .isin c, [x], H, Q => WC X (.builtin "isinstance") [x, .ty c] H Q
  | .mk m k, [x], H, Q => (∃ a, x = .str a) ∧ WM X (m1Id m) x [.str k] H Q
  | .ck m k, [x], H, Q => WM X (m1Id m) (.str k) [x] H Q
  | _, _, _, _ => False
theorem op_val (hc : X.calm = true) (hu : X.A.units + 65 < cLine) (o : Op) {vs : List V} {ds : List D} (r : RepL X.K G vs ds) (sb : Sub G H) (h : POr X.K G H (opSem o ds) Q) : OW X o vs H Q := by
  cases r with
  | nil => cases o <;> exact h.elim
  | cons a r => cases r with
    | nil => cases o with
      | neg => cases a with
        | int i =>
          intro pins s σ v I r1
          exact un_neg pins s σ H (.int i) v Q I r1 ⟨i, rfl, h.flat sb rfl (.int _)⟩
        | _ => exact h.elim
      | isn neg c => exact isn_val neg c a sb h
      | b1 b => exact b1_val hc b a sb h
      | isin c => exact isin_val c a sb h
      | mk m k => exact mk_val m k a sb h
      | ck m k => exact ck_val m k a sb h
      | _ => exact h.elim
    | cons b r => cases r with
      | nil => cases o with
        | bin o => exact bin_val o a b sb h
        | cmp c => exact cmp_val hu c a b sb h
        | ix => exact ix_val (by omega) a b sb h
        | b2 o => exact b2_val hc o a b sb h
        | neg => cases a <;> exact h.elim
        | _ => exact h.elim
      | cons _ _ => cases o with
        | neg => cases a <;> exact h.elim
        | _ => exact h.elim
end
end Pv
namespace Pv
open PySem PySem.Spec PyProof.Rows L2
/-! ## a def's promise -/
/-- what a def promises of its value's kind; the first io things handed in are its own to change -/
def OwnArgs (K : Fg) (G H : Hp) (io : Nat) (vs : List V) (ps : List (D × Nat)) (bs : List Addr) : Prop :=
  OwnP K G H (vs.take io) (ps.take io) bs ∧ RepL K G (vs.drop io) ((ps.drop io).map (·.1)) ∧ io ≤ vs.length
structure Own0 (K : Fg) (G H : Hp) (io : Nat) (vs : List V) (ps : List (D × Nat)) (bs : List Addr) : Prop where
  own : OwnArgs K G H io vs ps bs
  nd : bs.Nodup
  gn : ∀ a ∈ bs, G a = none
  sub : Sub G H
def one (bs : List Addr) : Fo := fun i => if i = 0 then bs else []
def PostF (K : Fg) (io : Nat) (vs : List V) (bs : List Addr) (G H : Hp) (r : FR) (Q : VK) (E : XK) : Prop := match r with
  | .ok d k outs => ∀ v G' H' cs ds, OwnP K G' H' (vs.take io) outs cs → Own K G' H' k v d ds → (cs ++ ds).Nodup → (∀ a ∈ cs ++ ds, G' a = none) → Sub G' H' → Step (one bs) G H (one cs) ds G' H' → Q v H'
  | .exc x outs => ∀ cls dd G' H' cs, OwnP K G' H' (vs.take io) outs cs → cs.Nodup → (∀ a ∈ cs, G' a = none) → Sub G' H' → ExnR K cls dd H' x → Step (one bs) G H (one cs) [] G' H' → E cls dd H'
  | .bad => False
def spF (K : Fg) (fn : Fn) (n : Nat) : Sp := fun vs H Q E => vs.length = n ∧ ∃ (G : Hp) (ps : List (D × Nat)) (bs : List Addr), ps.length = n ∧ Own0 K G H fn.io vs ps bs ∧ PostF K fn.io vs bs G H (fn.F ps) Q E
structure FnG (ρ : Nat → Fn) (X : Cx) (j : Nat) (x : Str) (n : Nat) : Prop where
  mg : X.mg x = some (.ref (He.ga X.K x))
  ex : ∃ fd ps k, ps.length = n ∧ PySem.W.keepIn X.K (.ref (He.ga X.K x)) = true ∧ Binds X.K fd ps [] ∧ Room k X.A ∧ FnOk X.prog X.w X.K X.mg X.base (L2.CX X.prog X.w) k (He.ga X.K x) fd ps (spF X.K (ρ j) ps.length)
/-- a constant's value -/
def cVal : Const → V
  | .none => .non
  | .bool b => .bl b
  | .int i => .int i
  | .str s => .str s
  | _ => .non
theorem cD_rep {K : Fg} {G : Hp} {c : Const} {d : D} (h : cD c = some d) : Rep K G (cVal c) d ∧ flat d = true := by
  cases c with
  | none => cases h; exact ⟨.non, rfl⟩
  | bool b => cases h; exact ⟨.bl b, rfl⟩
  | int i => cases h; exact ⟨.int i, rfl⟩
  | str s => cases h; exact ⟨by have := Rep.str (K := K) (G := G) s.cps.toList; rwa [sv_to] at this, rfl⟩
  | _ => cases h
structure XC (ρ : Nat → Fn) (c : Ctx) (X : Cx) : Prop where
  n : X.N = c.N
  nd : X.N.Nodup
  sc : X.env.scope = c.sc
  fnf : X.fn = c.fnf
  calm : X.calm = true
  un : X.A.units + 65 < cLine
  blt : ∀ x ∈ c.blt, X.mg x = none
  gcs : ∀ p ∈ c.gcs, ∃ u, X.mg p.1 = some u ∧ RelV (cVal p.2) u
  gts : ∀ p ∈ c.gts, ∃ a, X.mg p.1 = some (.ref a) ∧ ∀ H, SqT X.K H a (p.2.map cVal)
  fns : ∀ j x n, c.fns[j]? = some (x, n) → FnG ρ X j x n
section
variable {ρ : Nat → Fn} {c : Ctx} {X : Cx} {H : Hp} {σ : L2.St} {Q : VK}
theorem XC.vis (xc : XC ρ c X) {x : Str} (h : visB c x = true) : Vis X.env.scope x := by
  unfold visB at h
  rw [← xc.sc] at h
  simp only [Bool.or_eq_true, beq_iff_eq] at h
  rcases h with (h | h) | h
  · exact .inl h
  · exact .inr (.inl h)
  · exact .inr (.inr h)
theorem XC.loc (xc : XC ρ c X) {x : Str} (h : locB c x = true) : Loc X.env.scope x ∧ (X.fn x = true ∨ X.env.scope.names.lookup x = some .local) := by
  unfold locB at h
  rw [← xc.sc, ← xc.fnf] at h
  simp only [Bool.and_eq_true, Bool.or_eq_true, beq_iff_eq] at h
  exact h
theorem XC.gl (xc : XC ρ c X) {x : Str} (h : glB c x = true) : Gl X x := by
  unfold glB at h
  rw [← xc.sc] at h
  exact beq_iff_eq.mp h
theorem XC.bl (xc : XC ρ c X) {x : Str} (h : bltB c x = true) : Gl X x ∧ X.mg x = none := by
  unfold bltB at h
  rw [Bool.and_eq_true] at h
  exact ⟨xc.gl h.1, xc.blt x (of_decide_eq_true h.2)⟩
theorem and2 {a b : Bool} (h : (a && b) = true) : a = true ∧ b = true := Bool.and_eq_true_iff.mp h
theorem b1_syn (xc : XC ρ c X) (b : B1) {x : Expr} {p pos : Pos} (hb : bltB c (Str.ofString (b1N b)) = true) (hs : notStar x = true) (h : SL X [x] σ H (fun vs H' => WC X (b1F b) vs H' Q)) : SEv X (.Call (.Name (Str.ofString (b1N b)) p) [x] [] pos) σ H Q := by
  obtain ⟨g, m⟩ := xc.bl hb
  have pa : PA X [x] (SL X [x]) := pa_sem (by show (notStar x && true) = true; rw [hs]; rfl)
  cases b with
  | len => exact SEv.of (pe_callB (id := "len") wc_self g m (by decide +kernel) pa (by decide) (by decide) (star_of hs) rfl) h
  | abs => exact SEv.of (pe_callB (id := "abs") wc_self g m (by decide +kernel) pa (by decide) (by decide) (star_of hs) rfl) h
  | int => exact SEv.of (pe_callTy (T := "int") wc_self g m (by decide +kernel) pa (by decide) (by decide) (star_of hs) rfl) h
  | str => exact SEv.of (pe_callTy (T := "str") wc_self g m (by decide +kernel) pa (by decide) (by decide) (star_of hs) rfl) h
  | list => exact SEv.of (pe_callTy (T := "list") wc_self g m (by decide +kernel) pa (by decide) (by decide) (star_of hs) rfl) h
  | sorted => exact SEv.of (pe_callB (id := "sorted") wc_self g m (by decide +kernel) pa (by decide) (by decide) (star_of hs) rfl) h
  | sum => exact SEv.of (pe_callB (id := "sum") wc_self g m (by decide +kernel) pa (by decide) (by decide) (star_of hs) rfl) h
  | max => exact SEv.of (pe_callB (id := "max") wc_self g m (by decide +kernel) pa (by decide) (by decide) (star_of hs) rfl) h
  | min => exact SEv.of (pe_callB (id := "min") wc_self g m (by decide +kernel) pa (by decide) (by decide) (star_of hs) rfl) h
  | tuple => exact SEv.of (pe_callTy (T := "tuple") wc_self g m (by decide +kernel) pa (by decide) (by decide) (star_of hs) rfl) h
theorem b2_syn (xc : XC ρ c X) (b : B2) {x y : Expr} {p pos : Pos} (hb : bltB c (Str.ofString (b2N b)) = true) (hs : notStar x = true) (hs2 : notStar y = true) (h : SL X [x, y] σ H (fun vs H' => WC X (b2F b) vs H' Q)) : SEv X (.Call (.Name (Str.ofString (b2N b)) p) [x, y] [] pos) σ H Q := by
  obtain ⟨g, m⟩ := xc.bl hb
  have hy : allNS [y] = true := by show (notStar y && true) = true; rw [hs2]; rfl
  have pa : PA X [x, y] (SL X [x, y]) := pa_sem (by show (notStar x && allNS [y]) = true; rw [hs, hy]; rfl)
  cases b with
  | max => exact SEv.of (pe_callB (id := "max") wc_self g m (by decide +kernel) pa (by decide) (by decide) (star_of hs) (noany hy)) h
  | min => exact SEv.of (pe_callB (id := "min") wc_self g m (by decide +kernel) pa (by decide) (by decide) (star_of hs) (noany hy)) h
theorem ty_boot {t : String} (h : tyOk t = true) : bootBuiltins (Str.ofString t) = some (.type t) ∧ Str.ofString t ≠ ("__name__" : Str) ∧ (Str.ofString t == ("__debug__" : Str)) = false := by
  have h' : t = "bool" ∨ t = "int" ∨ t = "str" ∨ t = "list" ∨ t = "tuple" ∨ t = "dict" := by simpa [tyOk] using h
  rcases h' with rfl | rfl | rfl | rfl | rfl | rfl <;> exact ⟨by decide +kernel, by decide, by decide⟩
theorem plainIx_of {y : Expr} (h : noSl y = true) : PlainIx y := by
  intro o i
  cases y <;> first | rfl | cases h
theorem isn_syn (neg : Bool) (k : Const) {x : Expr} {j : Nat} {p pos : Pos} (h4 : nbC k = true) (q : SL X [x] σ H (fun vs H' => OW X (.isn neg k) vs H' Q)) : SEv X (.Compare x [isOp neg] [.Constant k j p] pos) σ H Q := by
  cases k with
  | none => cases neg with
    | true => exact SEv.of (pe_cmpR wr2_self pe_sem pe_non (nomark _)) q
    | false => exact SEv.of (pe_cmpR wr2_self pe_sem pe_non (nomark _)) q
  | bool b => cases neg with
    | true => exact SEv.of (pe_cmpR wr2_self pe_sem pe_bl (nomark _)) q
    | false => exact SEv.of (pe_cmpR wr2_self pe_sem pe_bl (nomark _)) q
  | _ => cases h4
theorem m1_slot (m : M1) {o e : Expr} {ap cp : Pos} {to te : TE} (hs : starEach [e] X.env = [(false, eval e X.env)]) (hb : attributeBase o (Str.ofString (m1N m)) X.env (eval o X.env) = eval o X.env) (hp : (ap.endLine == cp.line) = true) (ho : PE X o to) (he : PE X e te)
    (hm : m1Ok m = true) (q : tM1 (WM X (m1Id m)) to te σ H Q) : SEv X (.Call (.Attribute o (Str.ofString (m1N m)) ap) [e] [] cp) σ H Q := by
  cases m with
  | join => exact SEv.of (pe_m1 F.slot_str_join F.type_str_join wm_self ho he hs hb hp) q
  | count => exact SEv.of (pe_m1 F.slot_str_count F.type_str_count wm_self ho he hs hb hp) q
  | startswith => exact SEv.of (pe_m1 F.slot_str_startswith F.type_str_startswith wm_self ho he hs hb hp) q
  | partition => exact SEv.of (pe_m1 F.slot_str_partition F.type_str_partition wm_self ho he hs hb hp) q
  | split => exact SEv.of (pe_m1 F.slot_str_split F.type_str_split wm_self ho he hs hb hp) q
  | strip => exact SEv.of (pe_m1 F.slot_str_strip F.type_str_strip wm_self ho he hs hb hp) q
  | index => cases hm
  | get => cases hm
theorem mk_syn (m : M1) (k : Str) {x : Expr} {j : Nat} {p ap cp : Pos} (hm : m1Ok m = true) (hp : (ap.endLine == cp.line) = true) (hn : notCall x = true) (q : SL X [x] σ H (fun vs H' => OW X (.mk m k) vs H' Q)) :
    SEv X (.Call (.Attribute x (Str.ofString (m1N m)) ap) [.Constant (.str k) j p] [] cp) σ H Q := by
  have hb : attributeBase x (Str.ofString (m1N m)) X.env (eval x X.env) = eval x X.env := by cases x <;> first | rfl | cases hn
  have q : SEv X x σ H fun v H' => (∃ a, v = .str a) ∧ WM X (m1Id m) v [.str k] H' Q := q
  exact m1_slot m rfl hb hp pe_sem pe_str hm q
theorem ck_syn (m : M1) (k : Str) {y : Expr} {j : Nat} {p ap cp : Pos} (hm : m1Ok m = true) (hp : (ap.endLine == cp.line) = true) (hn : notStar y = true) (q : SL X [y] σ H (fun vs H' => OW X (.ck m k) vs H' Q)) :
    SEv X (.Call (.Attribute (.Constant (.str k) j p) (Str.ofString (m1N m)) ap) [y] [] cp) σ H Q := by
  have q : SEv X y σ H fun v H' => WM X (m1Id m) (.str k) [v] H' Q := q
  exact m1_slot m (star_of hn) rfl hp pe_str pe_sem hm ⟨⟨k, rfl⟩, q⟩
theorem op_syn (xc : XC ρ c X) (o : Op) {e : Expr} {l : List Expr} (h : opArgs c o e = some l) (q : SL X l σ H (fun vs H' => OW X o vs H' Q)) : SEv X e σ H Q := by
  unfold opArgs at h
  split at h
  · split at h
    · rename_i hb
      cases h
      subst hb
      exact SEv.of (pe_op wr2_self pe_sem pe_sem) q
    · cases h
  · cases h
    exact SEv.of (pe_un wr1_self pe_sem) q
  · split at h
    · rename_i hb
      obtain ⟨h1, h2⟩ := and2 hb
      cases h
      have h1' := of_decide_eq_true h1
      subst h1'
      exact SEv.of (pe_cmpR wr2_self pe_sem pe_sem (by simpa using h2)) q
    · cases h
  · split at h
    · rename_i hb
      obtain ⟨h1, h4⟩ := and2 hb
      obtain ⟨h2, h3⟩ := and2 h1
      cases h
      have h2' := of_decide_eq_true h2
      have h3' := of_decide_eq_true h3
      subst h2' h3'
      exact isn_syn _ _ h4 q
    · cases h
  · split at h
    · rename_i hb
      cases h
      exact SEv.of (pe_ix wix_self pe_sem pe_sem (plainIx_of hb)) q
    · cases h
  · split at h
    · rename_i hb
      obtain ⟨h1, h3⟩ := and2 hb
      obtain ⟨h1, h2⟩ := and2 h1
      cases h
      have h1' := of_decide_eq_true h1
      subst h1'
      exact b1_syn xc _ h2 h3 q
    · cases h
  · split at h
    · rename_i hb
      obtain ⟨h1, h4⟩ := and2 hb
      obtain ⟨h1, h3⟩ := and2 h1
      obtain ⟨h1, h2⟩ := and2 h1
      cases h
      have h1' := of_decide_eq_true h1
      subst h1'
      exact b2_syn xc _ h2 h3 h4 q
    · cases h
  · split at h
    · rename_i hb
      obtain ⟨h1, h6⟩ := and2 hb
      obtain ⟨h1, h5⟩ := and2 h1
      obtain ⟨h1, h4⟩ := and2 h1
      obtain ⟨h1, h3⟩ := and2 h1
      obtain ⟨h1, h2⟩ := and2 h1
      cases h
      have h1' := of_decide_eq_true h1
      have h3' := of_decide_eq_true h3
      subst h1' h3'
      obtain ⟨g, m⟩ := xc.bl h2
      obtain ⟨g2, m2⟩ := xc.bl h4
      obtain ⟨b1, b2, b3⟩ := ty_boot h5
      refine SEv.of (pe_callB (id := "isinstance") wc_self g m (by decide +kernel) (pa_cons pe_sem (pa_cons (pe_bltn (v := .ty _) g2 m2 b1 rfl b2 b3) pa_nil) (star_of h6)) (by decide) (by decide) (star_of h6) rfl) ?_
      exact q
    · cases h
  · split at h
    · rename_i hb
      obtain ⟨h1, h4⟩ := and2 hb
      obtain ⟨h1, h3⟩ := and2 h1
      obtain ⟨h1, h2⟩ := and2 h1
      obtain ⟨h1, h5⟩ := and2 h1
      cases h
      cases of_decide_eq_true h1
      cases of_decide_eq_true h2
      exact mk_syn _ _ h5 h3 h4 q
    · cases h
  · split at h
    · rename_i hb
      obtain ⟨h1, h4⟩ := and2 hb
      obtain ⟨h1, h3⟩ := and2 h1
      obtain ⟨h1, h2⟩ := and2 h1
      obtain ⟨h1, h5⟩ := and2 h1
      cases h
      cases of_decide_eq_true h1
      cases of_decide_eq_true h2
      exact ck_syn _ _ h5 h3 h4 q
    · cases h
  · cases h
end
end Pv
namespace Pv
open PySem PySem.Spec PyProof.Rows L2
section
variable {ρ : Nat → Fn} {c : Ctx} {X : Cx} {K : Fg} {W : WX} {G G1 H H1 : Hp} {f f1 : Fo} {σ : L2.St} {Q : VK} {env env1 : Ev} {bs bs1 : List Addr}
theorem SqL.rd {a : Addr} {xs : List V} (h : Rd H a (.lst xs)) : SqL K H a xs := .inl h
theorem SqT.rd {a : Addr} {xs : List V} (h : H a = some (.tup xs)) : SqT K H a xs := .inl (.inl h)
/-- truth -/
theorem Rep.tru {v : V} {d : D} {b : Bool} (r : Rep K G v d) (sb : Sub G H) (h : truth d = some b) : TruV K v H b := by
  cases r with
  | non => cases h; rfl
  | bl k => cases h; rfl
  | int i =>
    cases h
    show decide (i ≠ 0) = (i != 0)
    by_cases e : i = 0
    · subst e; rfl
    · rw [decide_eq_true e]; exact (bne_iff_ne.mpr e).symm
  | str s =>
    unfold truth at h
    dsimp only at h
    split at h
    · rename_i hz
      cases h
      refine ⟨by rw [sv_len]; exact big_le hz, ?_⟩
      rw [sv_len]
      cases s with
      | nil => rfl
      | cons a l =>
        show true = _
        symm
        rw [bne_iff_ne]
        simp only [List.length_cons]
        omega
    · cases h
  | lst e r =>
    cases h
    refine .inl ⟨_, .inl (sb.rd e), ?_⟩
    cases r <;> rfl
  | tup e r =>
    cases h
    refine .inr (.inl ⟨_, .inl (.inl (sb.tup e)), ?_⟩)
    cases r <;> rfl
  | _ => cases h
theorem Tmp.tru {v : V} {d : D} {k : Nat} {b : Bool} (t : Tmp K G H f k v d bs) (sb : Sub G H) (h : truth d = some b) : TruV K v H b := by
  refine Rep.tru (G := addG G H bs) t.rep (fun a o e => ?_) h
  by_cases hb : a ∈ bs
  · rw [addG_in hb] at e; exact .inl e
  · rw [addG_out hb] at e; exact sb a o e
/-- what an operation that only lays new things leaves, behind temporaries that are frozen -/
theorem pure_fin {p : D × Nat} (R : Rel K G1 env1 σ H1 f1) (gn : ∀ a ∈ bs, G1 a = none) (ap : ∀ a ∈ bs, ∀ i, a ∉ f1 i) (S : Step f G H f1 bs G1 H1) (h : PostE K W σ f G H (.ok p env1) Q) : POr K (addG G1 H1 bs) H1 (some p) Q := by
  intro v G3 H3 bs3 n o
  have R2 := R.freeze gn ap
  have S2 : Step f G H f1 bs (addG G1 H1 bs) H1 := S.freeze gn S.newB
  exact h v G3 H3 f1 bs3 (R2.new n) (Tmp.new R2 n o) ((S2.trans (Step.new n)).lessB fun a ha => List.mem_append_right _ ha)
theorem pure_res {o : OR} (R : Rel K G1 env1 σ H1 f1) (gn : ∀ a ∈ bs, G1 a = none) (ap : ∀ a ∈ bs, ∀ i, a ∉ f1 i) (S : Step f G H f1 bs G1 H1) (h : PostE K W σ f G H (o.res env1) Q) : POr K (addG G1 H1 bs) H1 o Q := by
  cases o with
  | none => exact h
  | some p => exact pure_fin R gn ap S h
def Good (ρ : Nat → Fn) (c : Ctx) (X : Cx) (W : WX) (m : E) (e : Expr) : Prop :=
  ∀ (env : Ev) (σ : L2.St) (G H : Hp) (f : Fo), Rel X.K G env σ H f →
    (∀ Q, PostE X.K W σ f G H ((evP ρ m).1 env) Q → SEv X e σ H Q) ∧ ∀ Q, PostT X.K W σ f G H ((evP ρ m).2 env) Q → STv X e σ H Q
def GoodL (ρ : Nat → Fn) (c : Ctx) (X : Cx) (W : WX) (ms : Es) (es : List Expr) : Prop :=
  ∀ (env : Ev) (σ : L2.St) (G H : Hp) (f : Fo), Rel X.K G env σ H f → ∀ Q, PostL X.K W σ f G H (evEs ρ ms env) Q → SL X es σ H Q
/-- the rest of a bind -/
theorem PostE.of_bind {α : Type} {r : Res α} {g : α → Ev → Res (D × Nat)} (h : PostE K W σ f G H (r.bind g) Q) : (∃ a e, r = .ok a e ∧ PostE K W σ f G H (g a e) Q) ∨ (∃ x e, r = .exc x e ∧ ExcP K W σ f G H x e) := by
  cases r with
  | ok a e => exact .inl ⟨a, e, rfl, h⟩
  | exc x e => exact .inr ⟨x, e, rfl, h⟩
  | bad => exact h.elim
theorem PostT.of_bind {α : Type} {r : Res α} {g : α → Ev → Res Bool} {Q : Bool → Hp → Prop} (h : PostT K W σ f G H (r.bind g) Q) : (∃ a e, r = .ok a e ∧ PostT K W σ f G H (g a e) Q) ∨ (∃ x e, r = .exc x e ∧ ExcP K W σ f G H x e) := by
  cases r with
  | ok a e => exact .inl ⟨a, e, rfl, h⟩
  | exc x e => exact .inr ⟨x, e, rfl, h⟩
  | bad => exact h.elim
theorem PostL.of_bind {α : Type} {r : Res α} {g : α → Ev → Res (List (D × Nat))} {Q : List V → Hp → Prop} (h : PostL K W σ f G H (r.bind g) Q) : (∃ a e, r = .ok a e ∧ PostL K W σ f G H (g a e) Q) ∨ (∃ x e, r = .exc x e ∧ ExcP K W σ f G H x e) := by
  cases r with
  | ok a e => exact .inl ⟨a, e, rfl, h⟩
  | exc x e => exact .inr ⟨x, e, rfl, h⟩
  | bad => exact h.elim
/-- behind a part: the whole's promise, told from there on -/
theorem PostE.shift {r : Res (D × Nat)} (S : Step f G H f1 bs G1 H1) (h : PostE K W σ f G H r Q) : PostE K W σ f1 G1 H1 r fun v H' => Q v H' := by
  cases r with
  | ok p e => exact fun v G' H' f' bs' R T S' => h v G' H' f' bs' R T ((S.trans S').lessB fun a ha => List.mem_append_right _ ha)
  | exc x e => exact ExcP.step h S
  | bad => exact h
theorem PostT.shift {r : Res Bool} {Q : Bool → Hp → Prop} (S : Step f G H f1 bs G1 H1) (h : PostT K W σ f G H r Q) : PostT K W σ f1 G1 H1 r Q := by
  cases r with
  | ok p e => exact fun G' H' f' R S' => h G' H' f' R ((S.trans S').lessB fun a ha => (nomatch ha))
  | exc x e => exact ExcP.step h S
  | bad => exact h
theorem PostL.shift {r : Res (List (D × Nat))} {Q : List V → Hp → Prop} (S : Step f G H f1 bs G1 H1) (h : PostL K W σ f G H r Q) : PostL K W σ f1 G1 H1 r Q := by
  cases r with
  | ok p e => exact fun v G' H' f' bs' R T S' => h v G' H' f' bs' R T ((S.trans S').lessB fun a ha => List.mem_append_right _ ha)
  | exc x e => exact ExcP.step h S
  | bad => exact h
/-- a test by a value's truth -/
def plainB : Expr → Bool
  | .UnaryOp .Not _ _ => false
  | .BoolOp _ _ _ => false
  | .IfExp _ _ _ _ => false
  | .Compare _ _ _ _ => false
  | _ => true
theorem test_of {e : Expr} (hp : plainB e = true) {Q : Bool → Hp → Prop} (h : SEv X e σ H (fun v H' => ∃ k, TruV X.K v H' k ∧ Q k H')) : STv X e σ H Q := by
  refine STv.of (pt_truth pe_sem ?_) h
  intro whole
  cases e with
  | UnaryOp o x p => cases o <;> first | rfl | cases hp
  | BoolOp _ _ _ => cases hp
  | IfExp _ _ _ _ => cases hp
  | Compare _ _ _ _ => cases hp
  | _ => rfl
theorem dft_post {r : Res (D × Nat)} {Q : Bool → Hp → Prop} (h : PostT K W σ f G H (r.bind fun p env1 => OBt (truth p.1) env1) Q) : PostE K W σ f G H r (fun v H' => ∃ k, TruV K v H' k ∧ Q k H') := by
  cases r with
  | ok p e =>
    intro v G' H' f' bs R T S
    have h' : PostT K W σ f G H (OBt (truth p.1) e) Q := h
    cases t : truth p.1 with
    | none => rw [t] at h'; exact h'.elim
    | some b =>
      rw [t] at h'
      exact ⟨b, T.tru R.sub t, h' G' H' f' R (S.lessB fun _ z => (nomatch z))⟩
  | exc x e => exact h
  | bad => exact h
theorem good_dft {v : Ev → Res (D × Nat)} {m : E} {e : Expr} (hm : evP ρ m = dft v) (hp : plainB e = true)
    (h : ∀ (env : Ev) (σ : L2.St) (G H : Hp) (f : Fo), Rel X.K G env σ H f → ∀ Q, PostE X.K W σ f G H (v env) Q → SEv X e σ H Q) : Good ρ c X W m e := fun env σ G H f R => by
  rw [hm]
  exact ⟨fun Q q => h env σ G H f R Q q, fun Q q => test_of hp (h env σ G H f R _ (dft_post q))⟩
/-- a name's value -/
theorem var_syn (xc : XC ρ c X) {i : Nat} {x : Str} {p : Pos} (h : varB c i x = true) {v : V} (hv : σ[i]? = some (some v)) (q : Q v H) : SEv X (.Name x p) σ H Q := by
  unfold varB at h
  simp only [Bool.and_eq_true, beq_iff_eq, bne_iff_ne] at h
  obtain ⟨⟨⟨h1, h2⟩, h3⟩, h4⟩ := h
  exact SEv.of (pe_var (i := i) (by rw [xc.n]; exact h1) (xc.vis h2) (beq_eq_false_iff_ne.mpr h3) (beq_eq_false_iff_ne.mpr h4)) ⟨v, hv, q⟩
theorem good_var (xc : XC ρ c X) {i : Nat} {x : Str} {p : Pos} (h : varB c i x = true) : Good ρ c X W (.var i) (.Name x p) := by
  refine good_dft rfl rfl fun env σ G H f R Q q => ?_
  split at q
  · rename_i d e
    obtain ⟨v, hv, ho⟩ := R.slot i d 0 e
    refine var_syn xc h hv (q v G H f [] R ?_ Step.refl)
    exact Tmp.of_rep ho.1
  · rename_i d k e
    split at q
    · rename_i hf
      obtain ⟨v, hv, ho⟩ := R.slot i d (k + 1) e
      exact var_syn xc h hv (q v G H f [] R (Tmp.of_rep (ho.flat hf).1) Step.refl)
    · exact q.elim
  · exact q.elim
theorem good_frz (xc : XC ρ c X) {i : Nat} {x : Str} {p : Pos} (h : varB c i x = true) : Good ρ c X W (.frz i) (.Name x p) := by
  refine good_dft rfl rfl fun env σ G H f R Q q => ?_
  split at q
  · rename_i d k e
    obtain ⟨v, hv, t⟩ := R.take e
    refine var_syn xc h hv (q v _ H _ [] (R.frz e) (Tmp.of_rep t.rep) (Step.frz fun a ha => R.gn i a ha))
  · exact q.elim
theorem good_mv (xc : XC ρ c X) {i : Nat} {x : Str} {p : Pos} (h : varB c i x = true) : Good ρ c X W (.mv i) (.Name x p) := by
  refine good_dft rfl rfl fun env σ G H f R Q q => ?_
  split at q
  · rename_i p' e
    obtain ⟨v, hv, t⟩ := R.take e
    exact var_syn xc h hv (q v G H _ (f i) R.kill t Step.take)
  · exact q.elim
theorem good_cst {k : Const} {j : Nat} {p : Pos} : Good ρ c X W (.cst k) (.Constant k j p) := by
  refine good_dft rfl rfl fun env σ G H f R Q q => ?_
  split at q
  · rename_i d e
    obtain ⟨r, fl⟩ := cD_rep (K := X.K) (G := G) e
    have z := q (cVal k) G H f [] R (Tmp.of_rep r) Step.refl
    cases k with
    | none => exact SEv.of pe_non z
    | bool b => exact SEv.of pe_bl z
    | int i => exact SEv.of pe_int z
    | str s => exact SEv.of pe_str z
    | _ => cases e
  · exact q.elim
theorem good_glb (xc : XC ρ c X) {x : Str} {k : Const} {p : Pos} (h1 : glB c x = true) (h2 : x ≠ ("__debug__" : Str)) (h3 : (x, k) ∈ c.gcs) : Good ρ c X W (.glb x k) (.Name x p) := by
  refine good_dft rfl rfl fun env σ G H f R Q q => ?_
  split at q
  · rename_i d e
    obtain ⟨r, fl⟩ := cD_rep (K := X.K) (G := G) e
    obtain ⟨u, hm, rv⟩ := xc.gcs _ h3
    exact SEv.of (pe_glob (xc.gl h1) hm rv (beq_eq_false_iff_ne.mpr h2)) (q (cVal k) G H f [] R (Tmp.of_rep r) Step.refl)
  · exact q.elim
end
end Pv
namespace Pv
open PySem PySem.Spec PyProof.Rows L2
section
variable {ρ : Nat → Fn} {c : Ctx} {X : Cx} {K : Fg} {W : WX} {G G1 H H1 : Hp} {f f1 : Fo} {σ : L2.St} {Q : VK} {env env1 : Ev} {bs bs1 : List Addr}
/-! ### lists of parts -/
theorem goodL_nil : GoodL ρ c X W .nil [] := fun env σ G H f R Q q => q [] G H f [] R TmpL.nil Step.refl
theorem goodL_cons {m : E} {ms : Es} {e : Expr} {es : List Expr} (hm : Good ρ c X W m e) (hs : GoodL ρ c X W ms es) : GoodL ρ c X W (.cons m ms) (e :: es) := by
  intro env σ G H f R Q q
  refine (hm env σ G H f R).1 _ ?_
  have q : PostL X.K W σ f G H (((evP ρ m).1 env).bind fun p env1 => (evEs ρ ms env1).bind fun ps env2 => .ok (p :: ps) env2) Q := q
  generalize hr : (evP ρ m).1 env = r at q ⊢
  cases r with
  | bad => exact q.elim
  | exc x e' => exact q
  | ok p env1 =>
    intro v G1 H1 f1 bs1 R1 T1 S1
    refine hs env1 σ G1 H1 f1 R1 _ ?_
    have q : PostL X.K W σ f G H ((evEs ρ ms env1).bind fun ps env2 => .ok (p :: ps) env2) Q := q
    have q' := q.shift S1
    generalize hr2 : evEs ρ ms env1 = r2 at q q' ⊢
    cases r2 with
    | bad => exact q.elim
    | exc x e' => exact q'
    | ok ps env2 =>
      intro vs G2 H2 f2 bs2 R2 T2 S2
      obtain ⟨T1', dj⟩ := T1.step S2
      exact q (v :: vs) G2 H2 f2 (bs1 ++ bs2) R2 (TmpL.cons T1' T2 dj) (S1.trans S2)
/-! ### operations -/
def isCmp : Op → Bool
  | .cmp _ => true
  | .isn _ _ => true
  | _ => false
theorem opArgs_plain {o : Op} {e : Expr} {l : List Expr} (h : opArgs c o e = some l) (hc : isCmp o = false) : plainB e = true := by
  unfold opArgs at h
  split at h
  any_goals rfl
  any_goals cases hc
  any_goals cases h
theorem opArgs_cmp {p : COp} {e : Expr} {l : List Expr} (h : opArgs c (.cmp p) e = some l) : ∃ x y pos, e = .Compare x [cOp p] [y] pos ∧ l = [x, y] ∧ behindInMarks (cOp p) y = false := by
  cases e with
  | Compare x ops cs pos =>
    cases ops with
    | nil => cases h
    | cons o r => cases r with
      | cons _ _ => cases cs <;> cases h
      | nil => cases cs with
        | nil => cases h
        | cons y r => cases r with
          | cons _ _ => cases h
          | nil =>
            have h : (if o = cOp p && !(behindInMarks o y) then some [x, y] else none) = some l := h
            split at h
            · rename_i hb
              obtain ⟨h1, h2⟩ := and2 hb
              cases h
              have h1' := of_decide_eq_true h1
              subst h1'
              exact ⟨x, y, pos, rfl, rfl, by simpa using h2⟩
            · cases h
  | _ => cases h
theorem opArgs_isn {neg : Bool} {k : Const} {e : Expr} {l : List Expr} (h : opArgs c (.isn neg k) e = some l) : ∃ x j p pos, e = .Compare x [isOp neg] [.Constant k j p] pos ∧ l = [x] ∧ nbC k = true := by
  cases e with
  | Compare x ops cs pos =>
    cases ops with
    | nil => cases h
    | cons o r => cases r with
      | cons _ _ => cases cs <;> cases h
      | nil => cases cs with
        | nil => cases h
        | cons y r => cases r with
          | cons _ _ => cases y <;> cases h
          | nil => cases y with
            | Constant k' j p =>
              have h : (if o = isOp neg && decide (k' = k) && nbC k then some [x] else none) = some l := h
              split at h
              · rename_i hb
                obtain ⟨h1, h4⟩ := and2 hb
                obtain ⟨h2, h3⟩ := and2 h1
                cases h
                have h2' := of_decide_eq_true h2
                have h3' := of_decide_eq_true h3
                subst h2' h3'
                exact ⟨x, j, p, pos, rfl, rfl, h4⟩
              · cases h
            | _ => cases h
  | _ => cases h
theorem good_op (xc : XC ρ c X) {o : Op} {ms : Es} {e : Expr} {es : List Expr} (ha : opArgs c o e = some es) (hs : GoodL ρ c X W ms es) : Good ρ c X W (.op o ms) e := by
  have val : ∀ (env : Ev) (σ : L2.St) (G H : Hp) (f : Fo), Rel X.K G env σ H f → ∀ Q, PostE X.K W σ f G H ((evEs ρ ms env).bind fun ps env1 => (opSem o (ps.map (·.1))).res env1) Q → SL X es σ H (fun vs H' => OW X o vs H' Q) := by
    intro env σ G H f R Q q
    refine hs env σ G H f R _ ?_
    generalize hr : evEs ρ ms env = r at q ⊢
    cases r with
    | bad => exact q.elim
    | exc x e' => exact q
    | ok ps env1 =>
      intro vs G1 H1 f1 bs1 R1 T1 S1
      exact op_val xc.calm xc.un o T1.rep (R1.freeze T1.gn T1.ap).sub (pure_res R1 T1.gn T1.ap S1 q)
  by_cases hc : isCmp o = true
  · refine fun env σ G H f R => ⟨fun Q q => op_syn xc o ha (val env σ G H f R Q q), fun Q q => ?_⟩
    have q1 := dft_post (K := X.K) q
    -- the value is a truth
    have q2 : PostE X.K W σ f G H ((evEs ρ ms env).bind fun ps env1 => (opSem o (ps.map (·.1))).res env1) (fun v H' => ∃ k, v = .bl k ∧ Q k H') := by
      generalize hr : evEs ρ ms env = r at q1
      have q1 : PostE X.K W σ f G H (r.bind fun ps env1 => (opSem o (ps.map (·.1))).res env1) (fun v H' => ∃ k, TruV X.K v H' k ∧ Q k H') := by rw [← hr]; exact dft_post q
      cases r with
      | bad => exact q1.elim
      | exc x e' => exact q1
      | ok ps env1 =>
        have q1 : PostE X.K W σ f G H ((opSem o (ps.map (·.1))).res env1) (fun v H' => ∃ k, TruV X.K v H' k ∧ Q k H') := q1
        show PostE X.K W σ f G H ((opSem o (ps.map (·.1))).res env1) (fun v H' => ∃ k, v = .bl k ∧ Q k H')
        cases ho : opSem o (ps.map (·.1)) with
        | none => rw [ho] at q1; exact q1.elim
        | some p =>
          have hb : ∃ b, p = (.bl b, 0) := by
            generalize ps.map (·.1) = ds at ho
            cases o with
            | cmp c =>
              match ds, ho with
              | [x, y], ho =>
                have ho : (oCmp c x y).map (fun b => ((.bl b : D), 0)) = some p := ho
                obtain ⟨b, _, e⟩ := Option.map_eq_some_iff.mp ho
                exact ⟨b, e.symm⟩
            | isn neg c =>
              match ds, ho with
              | [x], ho =>
                have ho : (isC c x).map (fun b => ((.bl (if neg then !b else b) : D), 0)) = some p := ho
                obtain ⟨b, _, e⟩ := Option.map_eq_some_iff.mp ho
                exact ⟨_, e.symm⟩
            | _ => cases hc
          obtain ⟨b, rfl⟩ := hb
          rw [ho] at q1
          intro v G' H' f' bs R' T' S'
          obtain ⟨k, t, z⟩ := q1 v G' H' f' bs R' T' S'
          have rv := (T'.own.flat (G' := G') rfl).1
          cases rv
          exact ⟨b, rfl, by have t' : k = b := t; subst t'; exact z⟩
    have v2 := val env σ G H f R _ q2
    cases o with
    | cmp p =>
      obtain ⟨x, y, pos, rfl, rfl, hm⟩ := opArgs_cmp ha
      exact STv.of (pt_cmpR wr2_self pe_sem pe_sem hm) v2
    | isn neg k =>
      obtain ⟨x, j, p, pos, rfl, rfl, hk⟩ := opArgs_isn ha
      cases k with
      | none => cases neg with
        | true => exact STv.of (pt_cmpR wr2_self pe_sem pe_non (nomark _)) v2
        | false => exact STv.of (pt_cmpR wr2_self pe_sem pe_non (nomark _)) v2
      | bool b => cases neg with
        | true => exact STv.of (pt_cmpR wr2_self pe_sem pe_bl (nomark _)) v2
        | false => exact STv.of (pt_cmpR wr2_self pe_sem pe_bl (nomark _)) v2
      | _ => cases hk
    | _ => cases hc
  · exact good_dft rfl (opArgs_plain ha (by simpa using hc)) fun env σ G H f R Q q => op_syn xc o ha (val env σ G H f R Q q)
end
end Pv
namespace Pv
open PySem PySem.Spec PyProof.Rows L2
section
variable {ρ : Nat → Fn} {c : Ctx} {X : Cx} {K : Fg} {W : WX} {G G1 H H1 : Hp} {f f1 : Fo} {σ : L2.St} {Q : VK} {env env1 : Ev} {bs bs1 : List Addr}
/-! ### and, or, not -/
theorem good_oneAnd {b : E} {y : Expr} {p : Pos} (h : Good ρ c X W b y) : Good ρ c X W b (.BoolOp .And [y] p) := fun env σ G H f R =>
  ⟨fun Q q => SEv.of (pe_one pe_sem) ((h env σ G H f R).1 Q q), fun Q q => STv.of (pw_and1 pt_sem).pt ((h env σ G H f R).2 Q q)⟩
theorem good_oneOr {b : E} {y : Expr} {p : Pos} (h : Good ρ c X W b y) : Good ρ c X W b (.BoolOp .Or [y] p) := fun env σ G H f R =>
  ⟨fun Q q => SEv.of (pe_one pe_sem) ((h env σ G H f R).1 Q q), fun Q q => STv.of (pw_or1 pt_sem).pt ((h env σ G H f R).2 Q q)⟩
theorem pw_sem {o : BoolOp} {l : List Expr} {p : Pos} : PW X (.BoolOp o l p) (STv X (.BoolOp o l p)) := ⟨fun wh pins s σ H Q I h => by
  have h' := h pins s I
  rw [arm_isTrue_BoolOp] at h' ⊢
  exact h'⟩
theorem good_and {a b : E} {x y : Expr} {r : List Expr} {p : Pos} (ha : Good ρ c X W a x) (hb : Good ρ c X W b (.BoolOp .And (y :: r) p)) : Good ρ c X W (.and a b) (.BoolOp .And (x :: y :: r) p) := by
  refine fun env σ G H f R => ⟨fun Q q => SEv.of (pe_andT pe_sem pe_sem) ((ha env σ G H f R).1 _ ?_), fun Q q => STv.of (pw_and pt_sem pw_sem).pt ((ha env σ G H f R).2 _ ?_)⟩
  · have q : PostE X.K W σ f G H (((evP ρ a).1 env).bind fun p env1 => match truth p.1 with
      | some true => (evP ρ b).1 env1
      | some false => .ok p env1
      | none => .bad) Q := q
    generalize hr : (evP ρ a).1 env = r at q ⊢
    cases r with
    | bad => exact q.elim
    | exc x e' => exact q
    | ok p' env1 =>
      intro v G1 H1 f1 bs1 R1 T1 S1
      have q : PostE X.K W σ f G H (match truth p'.1 with
        | some true => (evP ρ b).1 env1
        | some false => .ok p' env1
        | none => .bad) Q := q
      cases t : truth p'.1 with
      | none => rw [t] at q; exact q.elim
      | some k =>
        rw [t] at q
        refine ⟨k, T1.tru R1.sub t, ?_⟩
        cases k with
        | true =>
          rw [if_pos rfl]
          exact (hb env1 σ G1 H1 f1 R1).1 Q (PostE.shift S1 q)
        | false =>
          rw [if_neg Bool.false_ne_true]
          exact q v G1 H1 f1 bs1 R1 T1 S1
  · have q : PostT X.K W σ f G H (((evP ρ a).2 env).bind fun t env1 => if t then (evP ρ b).2 env1 else .ok false env1) Q := q
    generalize hr : (evP ρ a).2 env = r at q ⊢
    cases r with
    | bad => exact q.elim
    | exc x e' => exact q
    | ok k env1 =>
      intro G1 H1 f1 R1 S1
      cases k with
      | true =>
        rw [if_pos rfl]
        exact (hb env1 σ G1 H1 f1 R1).2 Q (PostT.shift S1 q)
      | false =>
        rw [if_neg Bool.false_ne_true]
        exact q G1 H1 f1 R1 S1
theorem good_or {a b : E} {x y : Expr} {r : List Expr} {p : Pos} (ha : Good ρ c X W a x) (hb : Good ρ c X W b (.BoolOp .Or (y :: r) p)) : Good ρ c X W (.or a b) (.BoolOp .Or (x :: y :: r) p) := by
  refine fun env σ G H f R => ⟨fun Q q => SEv.of (pe_orT pe_sem pe_sem) ((ha env σ G H f R).1 _ ?_), fun Q q => STv.of (pw_or pt_sem pw_sem).pt ((ha env σ G H f R).2 _ ?_)⟩
  · have q : PostE X.K W σ f G H (((evP ρ a).1 env).bind fun p env1 => match truth p.1 with
      | some true => .ok p env1
      | some false => (evP ρ b).1 env1
      | none => .bad) Q := q
    generalize hr : (evP ρ a).1 env = r at q ⊢
    cases r with
    | bad => exact q.elim
    | exc x e' => exact q
    | ok p' env1 =>
      intro v G1 H1 f1 bs1 R1 T1 S1
      have q : PostE X.K W σ f G H (match truth p'.1 with
        | some true => .ok p' env1
        | some false => (evP ρ b).1 env1
        | none => .bad) Q := q
      cases t : truth p'.1 with
      | none => rw [t] at q; exact q.elim
      | some k =>
        rw [t] at q
        refine ⟨k, T1.tru R1.sub t, ?_⟩
        cases k with
        | false =>
          rw [if_neg Bool.false_ne_true]
          exact (hb env1 σ G1 H1 f1 R1).1 Q (PostE.shift S1 q)
        | true =>
          rw [if_pos rfl]
          exact q v G1 H1 f1 bs1 R1 T1 S1
  · have q : PostT X.K W σ f G H (((evP ρ a).2 env).bind fun t env1 => if t then .ok true env1 else (evP ρ b).2 env1) Q := q
    generalize hr : (evP ρ a).2 env = r at q ⊢
    cases r with
    | bad => exact q.elim
    | exc x e' => exact q
    | ok k env1 =>
      intro G1 H1 f1 R1 S1
      cases k with
      | true =>
        rw [if_pos rfl]
        exact q G1 H1 f1 R1 S1
      | false =>
        rw [if_neg Bool.false_ne_true]
        exact (hb env1 σ G1 H1 f1 R1).2 Q (PostT.shift S1 q)
theorem good_not {a : E} {x : Expr} {p : Pos} (ha : Good ρ c X W a x) : Good ρ c X W (.not a) (.UnaryOp .Not x p) := by
  refine fun env σ G H f R => ⟨fun Q q => SEv.of (pe_notT pe_sem) ((ha env σ G H f R).1 _ ?_), fun Q q => STv.of (pt_not pt_sem) ((ha env σ G H f R).2 _ ?_)⟩
  · have q : PostE X.K W σ f G H (((evP ρ a).1 env).bind fun p env1 => match truth p.1 with
      | some b => .ok (.bl (!b), 0) env1
      | none => .bad) Q := q
    generalize hr : (evP ρ a).1 env = r at q ⊢
    cases r with
    | bad => exact q.elim
    | exc x e' => exact q
    | ok p' env1 =>
      intro v G1 H1 f1 bs1 R1 T1 S1
      have q : PostE X.K W σ f G H (match truth p'.1 with
        | some b => .ok (.bl (!b), 0) env1
        | none => .bad) Q := q
      cases t : truth p'.1 with
      | none => rw [t] at q; exact q.elim
      | some k =>
        rw [t] at q
        exact ⟨k, T1.tru R1.sub t, q (.bl (!k)) G1 H1 f1 [] R1 (Tmp.of_rep (.bl _)) (S1.lessB fun _ h => nomatch h)⟩
  · have q : PostT X.K W σ f G H (((evP ρ a).2 env).bind fun t env1 => .ok (!t) env1) Q := q
    generalize hr : (evP ρ a).2 env = r at q ⊢
    cases r with
    | bad => exact q.elim
    | exc x e' => exact q
    | ok k env1 =>
      intro G1 H1 f1 R1 S1
      exact q G1 H1 f1 R1 S1
end
end Pv
namespace Pv
open PySem PySem.Spec PyProof.Rows L2
section
variable {ρ : Nat → Fn} {c : Ctx} {X : Cx} {K : Fg} {W : WX} {G G1 G2 H H1 H2 : Hp} {f f1 f2 : Fo} {σ : L2.St} {Q : VK} {env env1 : Ev} {bs bs1 bs2 : List Addr}
/-! ### going on behind a part -/
theorem bndE {β : Type} {r : Res (D × Nat)} {g : D × Nat → Ev → Res β} {P : Res β → Prop} {Q' : VK} (h : P (r.bind g)) (hx : ∀ x e, P (.exc x e) → ExcP K W σ f G H x e) (hb : ¬ P .bad)
    (k : ∀ p env1 v G1 H1 f1 bs1, Rel K G1 env1 σ H1 f1 → Tmp K G1 H1 f1 p.2 v p.1 bs1 → Step f G H f1 bs1 G1 H1 → P (g p env1) → Q' v H1) : PostE K W σ f G H r Q' := by
  cases r with
  | ok p e => exact fun v G1 H1 f1 bs1 R T S => k p e v G1 H1 f1 bs1 R T S h
  | exc x e => exact hx x e h
  | bad => exact (hb h).elim
theorem bndT {β : Type} {r : Res Bool} {g : Bool → Ev → Res β} {P : Res β → Prop} {Q' : Bool → Hp → Prop} (h : P (r.bind g)) (hx : ∀ x e, P (.exc x e) → ExcP K W σ f G H x e) (hb : ¬ P .bad)
    (k : ∀ b env1 G1 H1 f1, Rel K G1 env1 σ H1 f1 → Step f G H f1 [] G1 H1 → P (g b env1) → Q' b H1) : PostT K W σ f G H r Q' := by
  cases r with
  | ok p e => exact fun G1 H1 f1 R S => k p e G1 H1 f1 R S h
  | exc x e => exact hx x e h
  | bad => exact (hb h).elim
theorem bndL {β : Type} {r : Res (List (D × Nat))} {g : List (D × Nat) → Ev → Res β} {P : Res β → Prop} {Q' : List V → Hp → Prop} (h : P (r.bind g)) (hx : ∀ x e, P (.exc x e) → ExcP K W σ f G H x e) (hb : ¬ P .bad)
    (k : ∀ ps env1 vs G1 H1 f1 bs1, Rel K G1 env1 σ H1 f1 → TmpL K G1 H1 f1 vs ps bs1 → Step f G H f1 bs1 G1 H1 → P (g ps env1) → Q' vs H1) : PostL K W σ f G H r Q' := by
  cases r with
  | ok p e => exact fun v G1 H1 f1 bs1 R T S => k p e v G1 H1 f1 bs1 R T S h
  | exc x e => exact hx x e h
  | bad => exact (hb h).elim
/-- an optional part of a slice -/
def PostO (K : Fg) (W : WX) (σ : L2.St) (f : Fo) (G H : Hp) (r : Res (Option Int)) (Q : Option Int → Hp → Prop) : Prop := match r with
  | .ok b env' => ∀ G' H' f', Rel K G' env' σ H' f' → Step f G H f' [] G' H' → Q b H'
  | .exc x env' => ExcP K W σ f G H x env'
  | .bad => False
theorem bndO {β : Type} {r : Res (Option Int)} {g : Option Int → Ev → Res β} {P : Res β → Prop} {Q' : Option Int → Hp → Prop} (h : P (r.bind g)) (hx : ∀ x e, P (.exc x e) → ExcP K W σ f G H x e) (hb : ¬ P .bad)
    (k : ∀ b env1 G1 H1 f1, Rel K G1 env1 σ H1 f1 → Step f G H f1 [] G1 H1 → P (g b env1) → Q' b H1) : PostO K W σ f G H r Q' := by
  cases r with
  | ok p e => exact fun G1 H1 f1 R S => k p e G1 H1 f1 R S h
  | exc x e => exact hx x e h
  | bad => exact (hb h).elim
theorem bndI {β : Type} {r : Res (List D)} {g : List D → Ev → Res β} {P : Res β → Prop} {Q' : It → Hp → Prop} (h : P (r.bind g)) (hx : ∀ x e, P (.exc x e) → ExcP K W σ f G H x e) (hb : ¬ P .bad)
    (k : ∀ ds env1 J G1 H1 f1, Rel K G1 env1 σ H1 f1 → Step f G H f1 [] G1 H1 → ItOk K J ds G1 → ds.length ≤ big → P (g ds env1) → Q' J H1) : PostI K W σ f G H r Q' := by
  cases r with
  | ok p e => exact fun J G1 H1 f1 R S i z => k p e J G1 H1 f1 R S i z h
  | exc x e => exact hx x e h
  | bad => exact (hb h).elim
theorem Step.nil (s : Step f G H f1 bs G1 H1) : Step f G H f1 [] G1 H1 := s.lessB fun _ h => nomatch h
theorem Step.then (s : Step f G H f1 bs G1 H1) (s2 : Step f1 G1 H1 f2 bs2 G2 H2) : Step f G H f2 bs2 G2 H2 := (s.trans s2).lessB fun _ h => List.mem_append_right _ h
theorem PostE.imp {r : Res (D × Nat)} {Q Q' : VK} (q : PostE K W σ f G H r Q) (h : ∀ p env1, r = .ok p env1 → ∀ v G1 H1 f1 bs1, Tmp K G1 H1 f1 p.2 v p.1 bs1 → Q v H1 → Q' v H1) : PostE K W σ f G H r Q' := by
  cases r with
  | ok p e => exact fun v G1 H1 f1 bs1 R T S => h p e rfl v G1 H1 f1 bs1 T (q v G1 H1 f1 bs1 R T S)
  | exc x e => exact q
  | bad => exact q
theorem bind_ok {α β : Type} {r : Res α} {g : α → Ev → Res β} {b : β} {e : Ev} (h : r.bind g = .ok b e) : ∃ a e1, r = .ok a e1 ∧ g a e1 = .ok b e := by
  cases r with
  | ok a e1 => exact ⟨a, e1, rfl, h⟩
  | exc x e1 => cases h
  | bad => cases h
/-! ### a < b < c -/
theorem chn_bl {o1 o2 : COp} {r1 : Res (D × Nat)} {r2 r3 : Ev → Res (D × Nat)} {Q Q' : VK} (q : PostE K W σ f G H (r1.bind fun p env1 => (r2 env1).bind fun q env2 => match oCmp o1 p.1 q.1 with
      | some true => (r3 env2).bind fun r env3 => OBr (oCmp o2 q.1 r.1) env3
      | some false => .ok (.bl false, 0) env2
      | none => .bad) Q) (h : ∀ H' k, Q (.bl k) H' → ∃ k', V.bl k = .bl k' ∧ Q' (.bl k') H') : PostE K W σ f G H (r1.bind fun p env1 => (r2 env1).bind fun q env2 => match oCmp o1 p.1 q.1 with
      | some true => (r3 env2).bind fun r env3 => OBr (oCmp o2 q.1 r.1) env3
      | some false => .ok (.bl false, 0) env2
      | none => .bad) (fun v H' => ∃ k, v = .bl k ∧ Q' (.bl k) H') := by
  refine q.imp fun p env1 e v G1 H1 f1 bs1 T z => ?_
  have hb : ∃ b, p = (.bl b, 0) := by
    obtain ⟨p1, e1, _, e⟩ := bind_ok e
    obtain ⟨p2, e2, _, e⟩ := bind_ok e
    split at e
    · obtain ⟨p3, e3, _, e⟩ := bind_ok e
      unfold OBr at e
      split at e
      · cases e; exact ⟨_, rfl⟩
      · cases e
    · cases e; exact ⟨_, rfl⟩
    · cases e
  obtain ⟨b, rfl⟩ := hb
  obtain ⟨r, _⟩ := T.own.flat (G' := G1) rfl
  cases r
  obtain ⟨k', e', z'⟩ := h H1 b z
  cases e'
  exact ⟨b, rfl, z'⟩
theorem good_chn (xc : XC ρ c X) {o1 o2 : COp} {a b d : E} {x y z : Expr} {p : Pos} (hm : lastMarks [cOp o1, cOp o2] [y, z] = false) (ha : Good ρ c X W a x) (hb : Good ρ c X W b y) (hd : Good ρ c X W d z) :
    Good ρ c X W (.chn o1 o2 a b d) (.Compare x [cOp o1, cOp o2] [y, z] p) := by
  have val : ∀ (env : Ev) (σ : L2.St) (G H : Hp) (f : Fo), Rel X.K G env σ H f → ∀ Q, PostE X.K W σ f G H (((evP ρ a).1 env).bind fun p env1 => ((evP ρ b).1 env1).bind fun q env2 => match oCmp o1 p.1 q.1 with
    | some true => ((evP ρ d).1 env2).bind fun r env3 => OBr (oCmp o2 q.1 r.1) env3
    | some false => .ok (.bl false, 0) env2
    | none => .bad) (fun v H' => ∃ k, v = .bl k ∧ Q (.bl k) H') → tChain (WR2 X (compareOp (cOp o1))) (WR2 X (compareOp (cOp o2))) (SEv X x) (SEv X y) (SEv X z) σ H Q := by
    intro env σ G H f R Q q
    refine (ha env σ G H f R).1 _ (bndE (P := fun r => PostE X.K W σ f G H r _) q (fun _ _ h => h) id fun p env1 v G1 H1 f1 bs1 R1 T1 S1 q => ?_)
    refine (hb env1 σ G1 H1 f1 R1).1 _ (bndE (P := fun r => PostE X.K W σ f G H r _) q (fun _ _ h => ExcP.step h S1) id fun p2 env2 u G2 H2 f2 bs2 R2 T2 S2 q => ?_)
    obtain ⟨T1', dj⟩ := T1.step S2
    have TL := TmpL.cons T1' T2.list dj
    have R3 := R2.freeze TL.gn TL.ap
    have S3 : Step f G H f2 [] (addG G2 H2 (bs1 ++ bs2)) H2 := ((S1.trans S2).freeze TL.gn (S1.trans S2).newB).nil
    have rr : RepL X.K (addG G2 H2 (bs1 ++ bs2)) [v, u] [p.1, p2.1] := TL.rep
    cases rr with
    | cons ra rr => cases rr with
      | cons rb _ =>
        cases ho : oCmp o1 p.1 p2.1 with
        | none => rw [ho] at q; exact q.elim
        | some k =>
          rw [ho] at q
          refine cmp_val xc.un o1 ra rb R3.sub ?_
          rw [ho]
          intro w G4 H4 bs4 n o
          obtain ⟨ro, e⟩ := o.flat (G' := G4) rfl
          subst e
          cases ro
          refine ⟨k, rfl, ?_⟩
          have R4 := R3.new n
          have S4 := S3.then (Step.new n)
          cases k with
          | false =>
            rw [if_neg Bool.false_ne_true]
            obtain ⟨k, e, q⟩ := q (.bl false) G4 H4 f2 [] R4 (Tmp.of_rep (.bl _)) S4
            cases e
            exact q
          | true =>
            rw [if_pos rfl]
            refine (hd env2 σ G4 H4 f2 R4).1 _ (bndE (P := fun r => PostE X.K W σ f G H r _) q (fun _ _ h => ExcP.step h S4) id fun p3 env3 w G5 H5 f5 bs5 R5 T5 S5 q => ?_)
            have R6 := R5.freeze T5.gn T5.ap
            refine cmp_val xc.un o2 ((rb.mono n.grow).mono (S5.grow.trans (.addG T5.gn))) T5.rep R6.sub ?_
            cases ho2 : oCmp o2 p2.1 p3.1 with
            | none => rw [ho2] at q; exact q.elim
            | some k2 =>
              rw [ho2] at q
              intro w2 G7 H7 bs7 n7 o7
              obtain ⟨ro, e⟩ := o7.flat (G' := G7) rfl
              subst e
              cases ro
              obtain ⟨k, e, q⟩ := q (.bl k2) G7 H7 f5 [] (R6.new n7) (Tmp.of_rep (.bl _)) (((S4.trans S5).freeze T5.gn (S4.trans S5).newB).nil.then (Step.new n7))
              cases e
              exact q
  refine fun env σ G H f R => ⟨fun Q q => SEv.of (pe_chain wr2_self wr2_self pe_sem pe_sem pe_sem hm) (val env σ G H f R Q ?_), fun Q q => STv.of (pt_chain wr2_self wr2_self pe_sem pe_sem pe_sem hm) (val env σ G H f R _ ?_)⟩
  · have q : PostE X.K W σ f G H (((evP ρ a).1 env).bind fun p env1 => ((evP ρ b).1 env1).bind fun q env2 => match oCmp o1 p.1 q.1 with
      | some true => ((evP ρ d).1 env2).bind fun r env3 => OBr (oCmp o2 q.1 r.1) env3
      | some false => .ok (.bl false, 0) env2
      | none => .bad) Q := q
    exact chn_bl q fun H' k h => ⟨k, rfl, h⟩
  · have q1 := dft_post (K := X.K) q
    have q1 : PostE X.K W σ f G H (((evP ρ a).1 env).bind fun p env1 => ((evP ρ b).1 env1).bind fun q env2 => match oCmp o1 p.1 q.1 with
      | some true => ((evP ρ d).1 env2).bind fun r env3 => OBr (oCmp o2 q.1 r.1) env3
      | some false => .ok (.bl false, 0) env2
      | none => .bad) _ := q1
    exact chn_bl (Q' := fun v H' => ∃ k, v = .bl k ∧ Q k H') q1 fun H' k ⟨k', t, h⟩ => ⟨k, rfl, k, rfl, by have t' : k' = k := t; subst t'; exact h⟩
def tChain3 (r1 r2 r3 : R2) (ta tb tc td : TE) : TE := fun σ H Q => ta σ H fun x H1 => tb σ H1 fun y H2 => r1 x y H2 fun z H3 => ∃ k, z = .bl k ∧
  (if k = true then tc σ H3 fun w H4 => r2 y w H4 fun z2 H5 => ∃ k2, z2 = .bl k2 ∧ (if k2 = true then td σ H5 fun u H6 => r3 w u H6 Q else Q (.bl false) H5) else Q (.bl false) H3)
theorem pe_chain3 {a b c d : Expr} {ta tb tc td : TE} {pos : Pos} {o1 o2 o3 : CmpOp} {r1 r2 r3 : R2} (h1 : OpR X (compareOp o1) r1) (h2 : OpR X (compareOp o2) r2) (h3 : OpR X (compareOp o3) r3) (ha : PE X a ta) (hb : PE X b tb) (hc : PE X c tc) (hd : PE X d td)
    (hm : lastMarks [o1, o2, o3] [b, c, d] = false) : PE X (.Compare a [o1, o2, o3] [b, c, d] pos) (tChain3 r1 r2 r3 ta tb tc td) := by
  refine ⟨fun pins s σ H Q I h => ?_⟩
  refine Compare_chain (thn (ha.run pins s σ H _ I h) fun v s1 ⟨x, H1, I1, r1', q1⟩ => chain_link (thn (hb.run pins s1 σ H1 _ I1 q1) fun u s2 ⟨y, H2, I2, r2', q2⟩ =>
    thn (h1 pins s2 σ H2 x y v u _ I2 r1' r2' q2) fun dd s3 ⟨z, H3, I3, r3', k, e, q3⟩ => ?_)) hm
  subst e
  cases r3'
  refine wpAny_truthy_bool ?_
  cases k with
  | false => exact ite_ff ⟨.bl false, H3, I3, rfl, q3⟩
  | true =>
    refine ite_tt (chain_link (thn (hc.run pins s3 σ H3 _ I3 q3) fun w' s4 ⟨w, H4, I4, r4, q4⟩ => thn (h2 pins s4 σ H4 y w u w' _ I4 r2' r4 q4) fun d' s5 ⟨z2, H5, I5, r5, k2, e2, q5⟩ => ?_))
    subst e2
    cases r5
    refine wpAny_truthy_bool ?_
    cases k2 with
    | false => exact ite_ff ⟨.bl false, H5, I5, rfl, q5⟩
    | true => exact ite_tt (chain_last (thn (hd.run pins s5 σ H5 _ I5 q5) fun u' s6 ⟨u2, H6, I6, r6, q6⟩ => h3 pins s6 σ H6 w u2 w' u' Q I6 r4 r6 q6))
theorem pt_chain3 {a b c d : Expr} {ta tb tc td : TE} {pos : Pos} {o1 o2 o3 : CmpOp} {r1 r2 r3 : R2} (h1 : OpR X (compareOp o1) r1) (h2 : OpR X (compareOp o2) r2) (h3 : OpR X (compareOp o3) r3) (ha : PE X a ta) (hb : PE X b tb) (hc : PE X c tc) (hd : PE X d td)
    (hm : lastMarks [o1, o2, o3] [b, c, d] = false) : PT X (.Compare a [o1, o2, o3] [b, c, d] pos) (tTest (tChain3 r1 r2 r3 ta tb tc td)) := by
  refine ⟨fun pins s σ H Q I h => ?_⟩
  refine isTrue_chain (thn (ha.run pins s σ H _ I h) fun v s1 ⟨x, H1, I1, r1', q1⟩ => test_link (thn (hb.run pins s1 σ H1 _ I1 q1) fun u s2 ⟨y, H2, I2, r2', q2⟩ =>
    thn (h1 pins s2 σ H2 x y v u _ I2 r1' r2' q2) fun dd s3 ⟨z, H3, I3, r3', k, e, q3⟩ => ?_)) hm
  subst e
  cases r3'
  refine wpAny_truthy_bool ?_
  cases k with
  | false =>
    obtain ⟨k', e', q'⟩ := q3
    cases e'
    exact ite_ff ⟨H3, I3, q'⟩
  | true =>
    refine ite_tt (test_link (thn (hc.run pins s3 σ H3 _ I3 q3) fun w' s4 ⟨w, H4, I4, r4, q4⟩ => thn (h2 pins s4 σ H4 y w u w' _ I4 r2' r4 q4) fun d' s5 ⟨z2, H5, I5, r5, k2, e2, q5⟩ => ?_))
    subst e2
    cases r5
    refine wpAny_truthy_bool ?_
    cases k2 with
    | false =>
      obtain ⟨k', e', q'⟩ := q5
      cases e'
      exact ite_ff ⟨H5, I5, q'⟩
    | true =>
      refine ite_tt (test_last (thn (hd.run pins s5 σ H5 _ I5 q5) fun u' s6 ⟨u2, H6, I6, r6, q6⟩ => thn (h3 pins s6 σ H6 w u2 w' u' _ I6 r4 r6 q6) fun d' s7 ⟨z3, H7, I7, r7, k3, e3, q7⟩ => ?_))
      subst e3
      cases r7
      exact wpAny_truthy_bool ⟨H7, I7, q7⟩
theorem obr_bl {o : Option Bool} {env : Ev} {Q Q' : VK} (q : PostE K W σ f G H (OBr o env) Q) (h : ∀ H' k, Q (.bl k) H' → Q' (.bl k) H') : PostE K W σ f G H (OBr o env) Q' := by
  cases o with
  | none => exact q
  | some k =>
    intro v G' H' f' bs R T S
    obtain ⟨ro, e⟩ := T.own.flat (G' := G') rfl
    cases ro
    exact h H' k (q (.bl k) G' H' f' bs R T S)
theorem bl_bl {k : Bool} {env : Ev} {Q Q' : VK} (q : PostE K W σ f G H (.ok (.bl k, 0) env) Q) (h : ∀ H' k, Q (.bl k) H' → Q' (.bl k) H') : PostE K W σ f G H (.ok (.bl k, 0) env) Q' := by
  intro v G' H' f' bs R T S
  obtain ⟨ro, e⟩ := T.own.flat (G' := G') rfl
  cases ro
  exact h H' k (q (.bl k) G' H' f' bs R T S)
theorem post_bind {r : Res (D × Nat)} {g : D × Nat → Ev → Res (D × Nat)} {Q Q' : VK} (q : PostE K W σ f G H (r.bind g) Q) (h : ∀ p e, PostE K W σ f G H (g p e) Q → PostE K W σ f G H (g p e) Q') : PostE K W σ f G H (r.bind g) Q' := by
  cases r with
  | bad => exact q
  | exc x e => exact q
  | ok p e => exact h p e q
def chn3F (o1 o2 o3 : COp) (ra rb rc rd : Ev → Res (D × Nat)) (env : Ev) : Res (D × Nat) := (ra env).bind fun p env1 => (rb env1).bind fun q env2 => match oCmp o1 p.1 q.1 with
    | some true => (rc env2).bind fun r env3 => (match oCmp o2 q.1 r.1 with
      | some true => (rd env3).bind fun w env4 => OBr (oCmp o3 r.1 w.1) env4
      | some false => .ok (.bl false, 0) env3
      | none => .bad)
    | some false => .ok (.bl false, 0) env2
    | none => .bad
theorem chn3_bl {o1 o2 o3 : COp} {ra rb rc rd : Ev → Res (D × Nat)} {env : Ev} {Q Q' : VK} (q : PostE K W σ f G H (chn3F o1 o2 o3 ra rb rc rd env) Q) (h : ∀ H' k, Q (.bl k) H' → Q' (.bl k) H') : PostE K W σ f G H (chn3F o1 o2 o3 ra rb rc rd env) Q' := by
  refine post_bind q fun p e q => post_bind q fun p2 e2 q => ?_
  cases ho : oCmp o1 p.1 p2.1 with
  | none => rw [ho] at q; exact q
  | some k =>
    rw [ho] at q
    cases k with
    | false => exact bl_bl q h
    | true =>
      refine post_bind q fun p3 e3 q => ?_
      cases ho2 : oCmp o2 p2.1 p3.1 with
      | none => rw [ho2] at q; exact q
      | some k =>
        rw [ho2] at q
        cases k with
        | false => exact bl_bl q h
        | true => exact post_bind q fun p4 e4 q => obr_bl q h
theorem good_chn3 (xc : XC ρ c X) {o1 o2 o3 : COp} {a b d w : E} {x y z u : Expr} {p : Pos} (hm : lastMarks [cOp o1, cOp o2, cOp o3] [y, z, u] = false) (ha : Good ρ c X W a x) (hb : Good ρ c X W b y) (hd : Good ρ c X W d z) (hw : Good ρ c X W w u) :
    Good ρ c X W (.chn3 o1 o2 o3 a b d w) (.Compare x [cOp o1, cOp o2, cOp o3] [y, z, u] p) := by
  have val : ∀ (env : Ev) (σ : L2.St) (G H : Hp) (f : Fo), Rel X.K G env σ H f → ∀ Q, PostE X.K W σ f G H (chn3F o1 o2 o3 (evP ρ a).1 (evP ρ b).1 (evP ρ d).1 (evP ρ w).1 env) (fun v H' => ∃ k, v = .bl k ∧ Q (.bl k) H') → tChain3 (WR2 X (compareOp (cOp o1))) (WR2 X (compareOp (cOp o2))) (WR2 X (compareOp (cOp o3))) (SEv X x) (SEv X y) (SEv X z) (SEv X u) σ H Q := by
    intro env σ G H f R Q q
    refine (ha env σ G H f R).1 _ (bndE (P := fun r => PostE X.K W σ f G H r _) q (fun _ _ h => h) id fun p env1 v G1 H1 f1 bs1 R1 T1 S1 q => ?_)
    refine (hb env1 σ G1 H1 f1 R1).1 _ (bndE (P := fun r => PostE X.K W σ f G H r _) q (fun _ _ h => ExcP.step h S1) id fun p2 env2 u G2 H2 f2 bs2 R2 T2 S2 q => ?_)
    obtain ⟨T1', dj⟩ := T1.step S2
    have TL := TmpL.cons T1' T2.list dj
    have R3 := R2.freeze TL.gn TL.ap
    have S3 : Step f G H f2 [] (addG G2 H2 (bs1 ++ bs2)) H2 := ((S1.trans S2).freeze TL.gn (S1.trans S2).newB).nil
    have rr : RepL X.K (addG G2 H2 (bs1 ++ bs2)) [v, u] [p.1, p2.1] := TL.rep
    cases rr with
    | cons ra rr => cases rr with
      | cons rb _ =>
        cases ho : oCmp o1 p.1 p2.1 with
        | none => rw [ho] at q; exact q.elim
        | some k =>
          rw [ho] at q
          refine cmp_val xc.un o1 ra rb R3.sub ?_
          rw [ho]
          intro w G4 H4 bs4 n o
          obtain ⟨ro, e⟩ := o.flat (G' := G4) rfl
          subst e
          cases ro
          refine ⟨k, rfl, ?_⟩
          have R4 := R3.new n
          have S4 := S3.then (Step.new n)
          cases k with
          | false =>
            rw [if_neg Bool.false_ne_true]
            obtain ⟨k, e, q⟩ := q (.bl false) G4 H4 f2 [] R4 (Tmp.of_rep (.bl _)) S4
            cases e
            exact q
          | true =>
            rw [if_pos rfl]
            refine (hd env2 σ G4 H4 f2 R4).1 _ (bndE (P := fun r => PostE X.K W σ f G H r _) q (fun _ _ h => ExcP.step h S4) id fun p3 env3 w3 G5 H5 f5 bs5 R5 T5 S5 q => ?_)
            have R6 := R5.freeze T5.gn T5.ap
            have S6 : Step f G H f5 [] (addG G5 H5 bs5) H5 := ((S4.trans S5).freeze T5.gn (S4.trans S5).newB).nil
            refine cmp_val xc.un o2 ((rb.mono n.grow).mono (S5.grow.trans (.addG T5.gn))) T5.rep R6.sub ?_
            cases ho2 : oCmp o2 p2.1 p3.1 with
            | none => rw [ho2] at q; exact q.elim
            | some k2 =>
              rw [ho2] at q
              intro w2 G7 H7 bs7 n7 o7
              obtain ⟨ro, e⟩ := o7.flat (G' := G7) rfl
              subst e
              cases ro
              refine ⟨k2, rfl, ?_⟩
              have R7 := R6.new n7
              have S7 := S6.then (Step.new n7)
              cases k2 with
              | false =>
                rw [if_neg Bool.false_ne_true]
                obtain ⟨k, e, q⟩ := q (.bl false) G7 H7 f5 [] R7 (Tmp.of_rep (.bl _)) S7
                cases e
                exact q
              | true =>
                rw [if_pos rfl]
                refine (hw env3 σ G7 H7 f5 R7).1 _ (bndE (P := fun r => PostE X.K W σ f G H r _) q (fun _ _ h => ExcP.step h S7) id fun p4 env4 w4 G8 H8 f8 bs8 R8 T8 S8 q => ?_)
                have R9 := R8.freeze T8.gn T8.ap
                refine cmp_val xc.un o3 ((T5.rep.mono n7.grow).mono (S8.grow.trans (.addG T8.gn))) T8.rep R9.sub ?_
                cases ho3 : oCmp o3 p3.1 p4.1 with
                | none => rw [ho3] at q; exact q.elim
                | some k3 =>
                  rw [ho3] at q
                  intro w5 G10 H10 bs10 n10 o10
                  obtain ⟨ro, e⟩ := o10.flat (G' := G10) rfl
                  subst e
                  cases ro
                  obtain ⟨k, e, q⟩ := q (.bl k3) G10 H10 f8 [] (R9.new n10) (Tmp.of_rep (.bl _)) (((S7.trans S8).freeze T8.gn (S7.trans S8).newB).nil.then (Step.new n10))
                  cases e
                  exact q
  refine fun env σ G H f R => ⟨fun Q q => SEv.of (pe_chain3 wr2_self wr2_self wr2_self pe_sem pe_sem pe_sem pe_sem hm) (val env σ G H f R Q ?_), fun Q q => STv.of (pt_chain3 wr2_self wr2_self wr2_self pe_sem pe_sem pe_sem pe_sem hm) (val env σ G H f R _ ?_)⟩
  · have q : PostE X.K W σ f G H (chn3F o1 o2 o3 (evP ρ a).1 (evP ρ b).1 (evP ρ d).1 (evP ρ w).1 env) Q := q
    exact chn3_bl q fun H' k h => ⟨k, rfl, h⟩
  · have q1 := dft_post (K := X.K) q
    have q1 : PostE X.K W σ f G H (chn3F o1 o2 o3 (evP ρ a).1 (evP ρ b).1 (evP ρ d).1 (evP ρ w).1 env) _ := q1
    exact chn3_bl q1 fun H' k ⟨k', t, h⟩ => ⟨k, rfl, k, rfl, by have t' : k' = k := t; subst t'; exact h⟩
/-! ### displays -/
theorem RepL.own0 : ∀ {vs : List V} {ds : List D}, RepL K G vs ds → OwnL (Own K G H 0) vs ds []
  | _, _, .nil => .nil
  | _, _, .cons a r => OwnL.cons (b := []) (bs := []) ⟨a, rfl⟩ (RepL.own0 r)
theorem OwnP.ownL {n : Nat} (hn : n ≠ 0) : ∀ {vs : List V} {ps : List (D × Nat)} {bs : List Addr}, OwnP K G H vs ps bs → ps.all (okd n) = true → OwnL (Own K G H n) vs (ps.map (·.1)) bs
  | _, _, _, .nil, _ => .nil
  | _, _, _, .cons (d := d) (k := k) (b := b) o r, h => by
    rw [List.all_cons] at h
    obtain ⟨h1, h2⟩ := and2 h
    refine OwnL.cons ?_ (OwnP.ownL hn r h2)
    have h1 : (n == 0 || k == n || flat d) = true := h1
    rw [Bool.or_eq_true, Bool.or_eq_true] at h1
    rcases h1 with (h1 | h1) | h1
    · exact absurd (beq_iff_eq.mp h1) hn
    · have e := beq_iff_eq.mp h1
      subst e; exact o
    · obtain ⟨q, e⟩ := o.flat (G' := G) h1
      subst e; exact Own.of_flat q h1
/-- a new container of what is at hand -/
theorem lay_new {n : Nat} {vs : List V} {ps : List (D × Nat)} {o : HO} {d : D} (R : Rel K G1 env1 σ H1 f1) (T : TmpL K G1 H1 f1 vs ps bs1) (S : Step f G H f1 bs1 G1 H1) (hn : n ≠ 0)
    (mk : ∀ (G H : Hp) (p : Addr) (cs : List Addr), H p = some o → OwnP K G H vs ps cs → Own K G H (n + 1) (.ref p) d (p :: cs))
    (q : PostE K W σ f G H (.ok (d, n + 1) env1) Q) : ∀ p, H1 p = none → Q (.ref p) (upd H1 p o) := by
  intro p hp
  have nw : New G1 H1 G1 (upd H1 p o) [p] := New.upd R.sub hp
  have hd : p ∉ bs1 := fun z => T.own.there p z hp
  have o' : OwnP K G1 (upd H1 p o) vs ps bs1 := T.own.keep (.refl _) fun a ha u h => nw.keep a u h
  have gp : G1 p = none := nw.gB p List.mem_cons_self
  refine q (.ref p) G1 _ f1 (p :: bs1) (R.new nw) ⟨mk _ _ p bs1 upd_same o', List.nodup_cons.mpr ⟨hd, T.nd⟩, fun a ha => ?_, fun a ha i hi => ?_⟩ ((S.trans (Step.new nw)).lessB fun a ha => ?_)
  · rcases List.mem_cons.mp ha with e | e
    · subst e; exact gp
    · exact T.gn a e
  · rcases List.mem_cons.mp ha with e | e
    · subst e; exact R.ht i a hi hp
    · exact T.ap a e i hi
  · rcases List.mem_cons.mp ha with e | e
    · subst e; exact List.mem_append_right _ List.mem_cons_self
    · exact List.mem_append_left _ e
theorem good_lst {n : Nat} {ms : Es} {es : List Expr} {p : Pos} (ns : allNS es = true) (hs : GoodL ρ c X W ms es) : Good ρ c X W (.lst n ms) (.List es p) := by
  refine good_dft rfl rfl fun env σ G H f R Q q => SEv.of (pe_lst (pa_sem ns)) ?_
  refine hs env σ G H f R _ (bndL (P := fun r => PostE X.K W σ f G H r Q) q (fun _ _ h => h) id fun ps env1 vs G1 H1 f1 bs1 R1 T1 S1 q => ?_)
  by_cases hc : (ps.all (okd n) && decide (ps.length ≤ big)) = true
  · rw [if_pos hc] at q
    obtain ⟨h1, h2⟩ := and2 hc
    have hz := of_decide_eq_true h2
    refine ⟨by rw [T1.own.length]; exact big_le hz, ?_⟩
    cases n with
    | zero =>
      exact (pure_fin R1 T1.gn T1.ap S1 q).lst (R1.freeze T1.gn T1.ap).sub T1.rep
    | succ n =>
      exact lay_new R1 T1 S1 (Nat.succ_ne_zero n) (fun G H p cs hp o => .inr (.inl ⟨p, vs, _, cs, rfl, rfl, hp, o.ownL (Nat.succ_ne_zero n) h1, rfl⟩)) q
  · rw [if_neg hc] at q; exact q.elim
theorem good_tup {n : Nat} {ms : Es} {es : List Expr} {k : Nat} {p : Pos} (ns : allNS es = true) (hs : GoodL ρ c X W ms es) : Good ρ c X W (.tup n ms) (.Tuple es k p) := by
  refine good_dft rfl rfl fun env σ G H f R Q q => SEv.of (pe_tup (pa_sem ns)) ?_
  refine hs env σ G H f R _ (bndL (P := fun r => PostE X.K W σ f G H r Q) q (fun _ _ h => h) id fun ps env1 vs G1 H1 f1 bs1 R1 T1 S1 q => ?_)
  by_cases hc : (ps.all (okd n) && decide (ps.length ≤ big)) = true
  · rw [if_pos hc] at q
    obtain ⟨h1, h2⟩ := and2 hc
    have hz := of_decide_eq_true h2
    refine ⟨by rw [T1.own.length]; exact big_le hz, ?_⟩
    cases n with
    | zero =>
      exact (pure_fin R1 T1.gn T1.ap S1 q).tup (R1.freeze T1.gn T1.ap).sub T1.rep
    | succ n =>
      exact lay_new R1 T1 S1 (Nat.succ_ne_zero n) (fun G H p cs hp o => .inr (.inr (.inl ⟨p, vs, _, cs, rfl, rfl, hp, o.ownL (Nat.succ_ne_zero n) h1, rfl⟩))) q
  · rw [if_neg hc] at q; exact q.elim
/-! ### slices -/
def SOv (X : Cx) (e : Option Expr) : TO := fun σ H Q => ∀ (pins : List (Addr × Obj)) (s : Shared), Inv X pins σ H s → wpAny (model X.prog X.w) X.A (evalPart e X.env) (fun u s' => ∃ o H', Inv X pins σ H' s' ∧ IsPart u o ∧ Q o H') X.xe s
theorem po_sem {e : Option Expr} : PO X e (SOv X e) := ⟨fun pins s σ H Q I h => h pins s I⟩
def GoodO (ρ : Nat → Fn) (c : Ctx) (X : Cx) (W : WX) (m : OE) (e : Option Expr) : Prop :=
  ∀ (env : Ev) (σ : L2.St) (G H : Hp) (f : Fo), Rel X.K G env σ H f → ∀ Q, PostO X.K W σ f G H (evO ρ m env) Q → SOv X e σ H Q
theorem goodO_no : GoodO ρ c X W .no none := fun env σ G H f R Q q pins s I => po_none.run pins s σ H Q I (q G H f R Step.refl)
theorem goodO_so {m : E} {e : Expr} (h : Good ρ c X W m e) : GoodO ρ c X W (.so m) (some e) := by
  intro env σ G H f R Q q pins s I
  refine (po_some pe_sem).run pins s σ H Q I ((h env σ G H f R).1 _ (bndE (P := fun r => PostO X.K W σ f G H r Q) q (fun _ _ h => h) id fun p env1 v G1 H1 f1 bs1 R1 T1 S1 q => ?_))
  obtain ⟨d, k⟩ := p
  cases d with
  | int i =>
    obtain ⟨r, e⟩ := T1.own.flat (G' := G1) rfl
    cases r
    exact ⟨i, rfl, q G1 H1 f1 R1 S1.nil⟩
  | _ => exact q.elim
def WSl (X : Cx) : V → Option Int → Option Int → Hp → VK → Prop := fun x lo hi H Q => ∀ (pins : List (Addr × Obj)) (s : Shared) (σ : L2.St) (v vl vu : Value) (sl : Addr), Inv X pins σ H s → RelV x v → s.heap.IsSliceOf sl vl vu .none → IsPart vl lo → IsPart vu hi →
  ∃ T id, typeLookup (.type T) "__getitem__" = pure (some (.builtin id)) ∧ s.TypeIs v T ∧ wpAny (model X.prog X.w) X.A (getItem v (.ref sl)) (EP X pins σ Q) X.xe s
theorem wsl_self : SlR X (WSl X) := fun pins s σ H x v vl vu lo hi sl Q I rx hs pl pu q => q pins s σ v vl vu sl I rx hs pl pu
theorem WSl.of {r : V → Option Int → Option Int → Hp → VK → Prop} (o : SlR X r) {x : V} {lo hi : Option Int} (h : r x lo hi H Q) : WSl X x lo hi H Q := fun pins s σ v vl vu sl I rx hs pl pu => o pins s σ H x v vl vu lo hi sl Q I rx hs pl pu h
theorem RepL.cut {vs : List V} {ds : List D} (r : RepL K G vs ds) (lo hi : Option Int) : RepL K G (cutV vs lo hi) (cutD ds lo hi) := by
  unfold cutV cutD
  rw [r.length]
  exact (r.drop _).take _
theorem slc_val {x : V} {dx : D} {lo hi : Option Int} (rx : Rep X.K G x dx) (sb : Sub G H) (h : POr X.K G H (oSlc dx lo hi) Q) : WSl X x lo hi H Q := by
  cases rx with
  | lst e r => exact WSl.of sl_list ⟨_, _, rfl, .inl (sb.rd e), POr.lst sb h (r.cut lo hi)⟩
  | scr e r => exact WSl.of sl_list ⟨_, _, rfl, e H fun o ho => sb.rd ho, POr.lst sb h (r.cut lo hi)⟩
  | tup e r =>
    refine WSl.of sl_tupA ⟨_, _, rfl, .inl (.inl (sb.tup e)), fun hw => ?_, fun _ => POr.tupF sb h (r.cut lo hi)⟩
    refine POr.rep sb h ?_
    have r' := r.cut lo hi
    have ec : ∀ {α : Type} (l : List α), HT.sIx l.length 0 lo = 0 ∧ HT.sIx l.length l.length hi = l.length → cutD l lo hi = l := fun l hw => by
      unfold cutD
      rw [hw.1, hw.2]
      simp
    rw [ec _ (by rw [← r.length]; exact hw)]
    exact .tup e r
  | str s =>
    obtain ⟨hz, h⟩ := por_if h
    refine WSl.of sl_str ⟨_, rfl, by rw [sv_len]; exact big_le hz, ?_⟩
    have e : cutS (sv s) lo hi = sv (cutD s lo hi) := by
      unfold cutS cutD
      rw [sv_len]
    rw [e]
    exact h.flat sb rfl (.str _)
  | _ => exact h.elim
theorem good_slc {a : E} {lo hi : OE} {x : Expr} {l h : Option Expr} {p p2 : Pos} (ha : Good ρ c X W a x) (hl : GoodO ρ c X W lo l) (hh : GoodO ρ c X W hi h) : Good ρ c X W (.slc a lo hi) (.Subscript x (.Slice l h none p2) p) := by
  refine good_dft rfl rfl fun env σ G H f R Q q => SEv.of (pe_slice wsl_self pe_sem po_sem po_sem) ?_
  refine (ha env σ G H f R).1 _ (bndE (P := fun r => PostE X.K W σ f G H r Q) q (fun _ _ h => h) id fun p env1 v G1 H1 f1 bs1 R1 T1 S1 q => ?_)
  refine hl env1 σ G1 H1 f1 R1 _ (bndO (P := fun r => PostE X.K W σ f G H r Q) q (fun _ _ h => ExcP.step h S1) id fun l env2 G2 H2 f2 R2 S2 q => ?_)
  refine hh env2 σ G2 H2 f2 R2 _ (bndO (P := fun r => PostE X.K W σ f G H r Q) q (fun _ _ h => ExcP.step h (S1.trans S2)) id fun h env3 G3 H3 f3 R3 S3 q => ?_)
  have T3 := (T1.step S2).1
  have T3 := (T3.step S3).1
  have S := ((S1.trans S2).trans S3).lessB (bs2 := bs1) fun a h => List.mem_append_left _ (List.mem_append_left _ h)
  exact slc_val T3.rep (R3.freeze T3.gn T3.ap).sub (pure_res R3 T3.gn T3.ap S q)
theorem good_rev {a : E} {x : Expr} {k : Nat} {p1 p2 p3 p : Pos} (ha : Good ρ c X W a x) : Good ρ c X W (.rev a) (.Subscript x (.Slice none none (some (.UnaryOp .USub (.Constant (.int 1) k p1) p2)) p3) p) := by
  refine good_dft rfl rfl fun env σ G H f R Q q => SEv.of (pe_revL pe_sem) ?_
  refine (ha env σ G H f R).1 _ (bndE (P := fun r => PostE X.K W σ f G H r Q) q (fun _ _ h => h) id fun p env1 v G1 H1 f1 bs1 R1 T1 S1 q => ?_)
  have q' : ∃ ds, p.1 = .lst ds ∧ PostE X.K W σ f G H (.ok (.lst ds.reverse, 1) env1) Q := by
    obtain ⟨d, k⟩ := p
    cases d with
    | lst ds => exact ⟨ds, rfl, q⟩
    | _ => exact q.elim
  obtain ⟨ds, e, q⟩ := q'
  have r := T1.rep
  rw [e] at r
  cases r with
  | lst e r => exact ⟨_, _, rfl, .inl ((R1.freeze T1.gn T1.ap).sub.rd e), (pure_fin R1 T1.gn T1.ap S1 q).lst (R1.freeze T1.gn T1.ap).sub r.reverse⟩
end
end Pv
namespace Pv
open PySem PySem.Spec PyProof.Rows L2
section
variable {ρ : Nat → Fn} {c : Ctx} {X : Cx} {K : Fg} {W : WX} {G G1 G2 H H1 H2 : Hp} {f f1 f2 : Fo} {σ : L2.St} {Q : VK} {env env1 : Ev} {bs bs1 bs2 : List Addr}
theorem TmpL.step {vs : List V} {ps : List (D × Nat)} (t : TmpL K G H f vs ps bs) (s : Step f G H f1 bs1 G1 H1) : TmpL K G1 H1 f1 vs ps bs ∧ ∀ a ∈ bs, a ∉ bs1 := by
  have th := t.own.there
  refine ⟨⟨t.own.keep s.grow fun a ha o h => s.keep a o h (t.ap a ha), t.nd, fun a ha => ?_, fun a ha i hi => ?_⟩, fun a ha hb => ?_⟩
  · cases q : G1 a with
    | none => rfl
    | some o =>
      rcases s.newG a (by rw [q]; exact fun z => (nomatch z)) with z | ⟨j, z⟩ | z
      · exact absurd (t.gn a ha) z
      · exact absurd z (t.ap a ha j)
      · exact absurd z (th a ha)
  · rcases s.newA i a hi with ⟨j, z⟩ | z
    · exact t.ap a ha j z
    · exact th a ha z
  · rcases s.newB a hb with ⟨j, z⟩ | z
    · exact t.ap a ha j z
    · exact th a ha z
theorem mem_one {a : Addr} {i : Nat} (h : a ∈ one bs i) : a ∈ bs := by
  unfold one at h
  split at h
  · exact h
  · cases h
theorem one_mem {a : Addr} (h : a ∈ bs) : a ∈ one bs 0 := h
theorem OwnP.append {vs2 : List V} {ps2 : List (D × Nat)} : ∀ {vs : List V} {ps : List (D × Nat)} {bs : List Addr}, OwnP K G H vs ps bs → OwnP K G H vs2 ps2 bs2 → OwnP K G H (vs ++ vs2) (ps ++ ps2) (bs ++ bs2)
  | _, _, _, .nil, r => r
  | _, _, _, .cons (b := b) (bs := bs) o l, r => by rw [List.append_assoc]; exact .cons o (OwnP.append l r)
/-- a call: the first things handed in are lent to be changed -/
theorem call_core {fn : Fn} {vs1 vs2 : List V} {qs ps : List (D × Nat)} {bsV bsE : List Addr} {E : XK} (R : Rel K G1 env1 σ H1 f1) (TV : TmpL K G1 H1 f1 vs1 qs bsV) (TE : TmpL K G1 H1 f1 vs2 ps bsE)
    (dj : ∀ a ∈ bsV, a ∉ bsE) (S : Step f G H f1 (bsV ++ bsE) G1 H1) (hio : fn.io = vs1.length) (hbad : fn.F (qs ++ ps.map freeze1) ≠ .bad)
    (hok : ∀ d k outs v G2 H2 cs ds, fn.F (qs ++ ps.map freeze1) = .ok d k outs → Rel K G2 env1 σ H2 f1 → TmpL K G2 H2 f1 vs1 outs cs → Tmp K G2 H2 f1 k v d ds → (∀ a ∈ cs, a ∉ ds) → Step f G H f1 (cs ++ ds) G2 H2 → Q v H2)
    (hexc : ∀ x outs cls dd G2 H2 cs, fn.F (qs ++ ps.map freeze1) = .exc x outs → Rel K G2 env1 σ H2 f1 → TmpL K G2 H2 f1 vs1 outs cs → ExnR K cls dd H2 x → Step f G H f1 cs G2 H2 → E cls dd H2) :
    ∀ n, n = vs1.length + vs2.length → spF K fn n (vs1 ++ vs2) H1 Q E := by
  intro n hn
  subst hn
  have lq : vs1.length = qs.length := TV.own.length
  have lp : vs2.length = ps.length := TE.own.length
  have R2 := R.freeze TE.gn TE.ap
  have S2 : Step f G H f1 (bsV ++ bsE) (addG G1 H1 bsE) H1 := S.freeze TE.gn fun a ha => S.newB a (List.mem_append_right _ ha)
  have gnV : ∀ a ∈ bsV, addG G1 H1 bsE a = none := fun a ha => by rw [addG_out (dj a ha)]; exact TV.gn a ha
  have OV : OwnP K (addG G1 H1 bsE) H1 vs1 qs bsV := TV.own.keep (.addG TE.gn) fun a _ o h => h
  refine ⟨by rw [List.length_append], addG G1 H1 bsE, qs ++ ps.map freeze1, bsV, by rw [List.length_append, List.length_map]; omega, ⟨⟨?_, ?_, by rw [hio, List.length_append]; omega⟩, TV.nd, gnV, R2.sub⟩, ?_⟩
  · rw [hio, List.take_left, lq, List.take_left]; exact OV
  · rw [hio, List.drop_left, lq, List.drop_left, List.map_map]
    exact TE.rep
  -- what another's step leaves of ours
  have back : ∀ (G3 H3 : Hp) (cs ds : List Addr), (∀ a ∈ cs ++ ds, G3 a = none) → Sub G3 H3 → Step (one bsV) (addG G1 H1 bsE) H1 (one cs) ds G3 H3 → Rel K G3 env1 σ H3 f1 ∧ (∀ a ∈ cs ++ ds, ∀ i, a ∉ f1 i) ∧ Step f G H f1 (cs ++ ds) G3 H3 := by
    intro G3 H3 cs ds gn sb st
    have kp : ∀ a, a ∉ bsV → ∀ o, H1 a = some o → H3 a = some o := fun a ha o h => st.keep a o h fun i hi => ha (mem_one hi)
    have apF : ∀ i a, a ∈ f1 i → a ∉ bsV := fun i a h hb => TV.ap a hb i h
    have nw : ∀ a ∈ cs ++ ds, a ∈ bsV ∨ H1 a = none := fun a ha => by
      rcases List.mem_append.mp ha with z | z
      · exact (st.newA 0 a (one_mem z)).imp (fun ⟨j, q⟩ => mem_one q) id
      · exact (st.newB a z).imp (fun ⟨j, q⟩ => mem_one q) id
    refine ⟨⟨R2.len, fun i d k e => ?_, R2.nd, R2.dj, fun i a h => ?_, fun i a h => st.there a (R2.ht i a h), sb⟩, fun a ha i hi => ?_, ⟨fun a o h hf => ?_, S2.grow.trans st.grow, S2.newA, fun a ha => ?_, fun a ha => ?_, fun a ha => st.there a (S2.there a ha)⟩⟩
    · obtain ⟨v, h1, h2⟩ := R2.slot i d k e
      exact ⟨v, h1, h2.keep st.grow fun a ha o h => kp a (apF i a ha) o h⟩
    · cases q : G3 a with
      | none => rfl
      | some o =>
        rcases st.newG a (by rw [q]; exact fun z => (nomatch z)) with z | ⟨j, z⟩ | z
        · exact absurd (R2.gn i a h) z
        · exact absurd (mem_one z) (apF i a h)
        · exact absurd z (R2.ht i a h)
    · rcases nw a ha with z | z
      · exact TV.ap a z i hi
      · exact R2.ht i a hi z
    · refine kp a (fun hb => ?_) o (S2.keep a o h hf)
      rcases S2.newB a (List.mem_append_left _ hb) with ⟨j, z⟩ | z
      · exact hf j z
      · rw [h] at z; cases z
    · rcases nw a ha with z | z
      · exact S2.newB a (List.mem_append_left _ z)
      · by_cases q : H a = none
        · exact .inr q
        · exact absurd z (S2.there a q)
    · rcases st.newG a ha with z | ⟨j, z⟩ | z
      · exact S2.newG a z
      · exact .inr (S2.newB a (List.mem_append_left _ (mem_one z)))
      · by_cases q : H a = none
        · exact .inr (.inr q)
        · exact absurd z (S2.there a q)
  cases hF : fn.F (qs ++ ps.map freeze1) with
  | bad => exact (hbad hF).elim
  | ok d k outs =>
    intro v G3 H3 cs ds oc od nd gn sb st
    rw [hio, List.take_left] at oc
    obtain ⟨R3, ap, S3⟩ := back G3 H3 cs ds gn sb st
    obtain ⟨n1, n2, n3⟩ := List.nodup_append.mp nd
    exact hok d k outs v G3 H3 cs ds hF R3 ⟨oc, n1, fun a h => gn a (List.mem_append_left _ h), fun a h => ap a (List.mem_append_left _ h)⟩ ⟨od, n2, fun a h => gn a (List.mem_append_right _ h), fun a h => ap a (List.mem_append_right _ h)⟩ (fun a h h' => n3 a h a h' rfl) S3
  | exc x outs =>
    intro cls dd G3 H3 cs oc nd gn sb er st
    rw [hio, List.take_left] at oc
    obtain ⟨R3, ap, S3⟩ := back G3 H3 cs [] (by rw [List.append_nil]; exact gn) sb st
    rw [List.append_nil] at ap S3
    exact hexc x outs cls dd G3 H3 cs hF R3 ⟨oc, nd, gn, ap⟩ er S3
theorem fn_syn {j : Nat} {x : Str} {n : Nat} {e : Expr} {es : List Expr} {p pos : Pos} (tk : Takes X W) (F : FnG ρ X j x n) (hg : Gl X x) (hd : x ≠ ("__debug__" : Str)) (ns : allNS (e :: es) = true)
    (h : SL X (e :: es) σ H (fun vs H' => spF X.K (ρ j) n vs H' Q (WE W σ))) : SEv X (.Call (.Name x p) (e :: es) [] pos) σ H Q := by
  obtain ⟨fd, ps, k, hl, hk, hb, hr, hF⟩ := F.ex
  have ns' : (notStar e && allNS es) = true := ns
  obtain ⟨n1, n2⟩ := and2 ns'
  refine SEv.of (pe_callS hF hr hg F.mg hk hb (passAt tk) (pa_sem ns) (beq_eq_false_iff_ne.mpr hd) (star_of n1) (noany n2)) ?_
  rw [hl]
  exact h
theorem good_call (xc : XC ρ c X) (tk : Takes X W) {j : Nat} {ms : Es} {x : Str} {e : Expr} {es : List Expr} {p pos : Pos} (hf : c.fns[j]? = some (x, es.length + 1)) (hg : glB c x = true) (hd : x ≠ ("__debug__" : Str)) (ns : allNS (e :: es) = true)
    (hs : GoodL ρ c X W ms (e :: es)) (hl : ∀ env ps env1, evEs ρ ms env = .ok ps env1 → ps.length = es.length + 1) : Good ρ c X W (.call j ms) (.Call (.Name x p) (e :: es) [] pos) := by
  refine good_dft rfl rfl fun env σ G H f R Q q => fn_syn tk (xc.fns j x _ hf) (xc.gl hg) hd ns ?_
  have hl := hl env
  have q : PostE X.K W σ f G H ((evEs ρ ms env).bind fun ps env1 => if (ρ j).io == 0 then retC ((ρ j).F (ps.map freeze1)) env1 else .bad) Q := q
  refine hs env σ G H f R _ ?_
  generalize hr : evEs ρ ms env = r at q hl ⊢
  cases r with
  | bad => exact q.elim
  | exc x e' => exact q
  | ok ps env1 =>
    intro vs G1 H1 f1 bs1 R1 T1 S1
    have hl := hl ps env1 rfl
    have q : PostE X.K W σ f G H (if (ρ j).io == 0 then retC ((ρ j).F (ps.map freeze1)) env1 else .bad) Q := q
    by_cases hio : ((ρ j).io == 0) = true
    · rw [if_pos hio] at q
      refine call_core (vs1 := []) (qs := []) (bsV := []) (bsE := bs1) (f := f) (G := G) (H := H) R1 TmpL.nil T1 (fun _ h => nomatch h) S1 (beq_iff_eq.mp hio) (fun hb => ?_) (fun d k outs v G2 H2 cs ds hF R2 TV T2 dj S2 => ?_) (fun x outs cls dd G2 H2 cs hF R2 TV er S2 => ?_) _ ?_
      · rw [List.nil_append] at hb
        rw [hb] at q; exact q
      · rw [List.nil_append] at hF
        rw [hF] at q
        have o := TV.own
        cases o
        exact q v G2 H2 f1 ds R2 T2 S2
      · rw [List.nil_append] at hF
        rw [hF] at q
        have o := TV.own
        cases o
        exact q cls dd G2 H2 f1 R2 er S2
      · have := T1.own.length
        simp only [List.length_nil]
        omega
    · rw [if_neg hio] at q; exact q.elim
theorem lookup_mem {y : Str} {j : Nat} : ∀ {cs : List (Str × Nat)}, cs.lookup y = some j → (y, j) ∈ cs
  | [], h => by cases h
  | (a1, a2) :: cs, h => by
    rw [List.lookup_cons] at h
    by_cases z : (y == a1) = true
    · rw [z] at h
      cases h
      rw [beq_iff_eq.mp z]
      exact List.mem_cons_self
    · have z : (y == a1) = false := by simpa using z
      rw [z] at h
      exact List.mem_cons_of_mem _ (lookup_mem h)
theorem good_callv (xc : XC ρ c X) {i : Nat} {cs : List (Str × Nat)} {ms : Es} {x : Str} {e : Expr} {es : List Expr} {p pos : Pos} (hv : varB c i x = true) (hcs : (cs.all fun p => c.fns[p.2]? == some (p.1, es.length + 1)) = true) (ns : allNS (e :: es) = true)
    (hs : GoodL ρ c X W ms (e :: es)) (hl : ∀ env ps env1, evEs ρ ms env = .ok ps env1 → ps.length = es.length + 1) : Good ρ c X W (.callv i cs ms) (.Call (.Name x p) (e :: es) [] pos) := by
  refine good_dft rfl rfl fun env σ G H f R Q q => ?_
  have hl := hl env
  generalize hslot : env[i]? = slot at q
  match slot, q with
  | some (some (.fn y, kk)), q =>
    have q : PostE X.K W σ f G H (match cs.lookup y with
      | some j => (evEs ρ ms env).bind fun ps env1 => if (ρ j).io == 0 then retN ((ρ j).F (ps.map freeze1)) env1 else .bad
      | none => .bad) Q := q
    cases hlk : cs.lookup y with
    | none => rw [hlk] at q; exact q.elim
    | some j =>
      rw [hlk] at q
      have q : PostE X.K W σ f G H ((evEs ρ ms env).bind fun ps env1 => if (ρ j).io == 0 then retN ((ρ j).F (ps.map freeze1)) env1 else .bad) Q := q
      have hmem : (y, j) ∈ cs := lookup_mem hlk
      have hj := beq_iff_eq.mp (List.all_eq_true.mp hcs _ hmem)
      obtain ⟨v, hσ, ov⟩ := R.slot i _ _ hslot
      obtain ⟨rv, _⟩ := ov.flat (G' := G) rfl
      cases rv
      obtain ⟨fd, ps, k, hpl, hk, hb, hr, hF⟩ := (xc.fns j y _ hj).ex
      have ns' : (notStar e && allNS es) = true := ns
      obtain ⟨n1, n2⟩ := and2 ns'
      unfold varB at hv
      simp only [Bool.and_eq_true, beq_iff_eq, bne_iff_ne] at hv
      obtain ⟨⟨⟨h1, h2⟩, h3⟩, h4⟩ := hv
      refine SEv.of (pe_callL (i := i) (ds := []) (dvs := []) (E := fun _ _ _ => False) hF hr (by rw [xc.n]; exact h1) (xc.vis h2) hk hb .nil (fun pins σ H s e s' I z => by obtain ⟨_, _, _, _, _, _, _, _, _, _, _, _, z⟩ := z; exact z.elim) (pa_sem ns) (beq_eq_false_iff_ne.mpr h3) (beq_eq_false_iff_ne.mpr h4) (star_of n1) (noany n2)) ?_
      refine ⟨hσ, ?_⟩
      rw [hpl]
      refine hs env σ G H f R _ ?_
      generalize hr' : evEs ρ ms env = r at q hl ⊢
      cases r with
      | bad => exact q.elim
      | exc x e' => exact q
      | ok ps env1 =>
        intro vs G1 H1 f1 bs1 R1 T1 S1
        have hl := hl ps env1 rfl
        rw [List.append_nil]
        have q : PostE X.K W σ f G H (if (ρ j).io == 0 then retN ((ρ j).F (ps.map freeze1)) env1 else .bad) Q := q
        by_cases hio : ((ρ j).io == 0) = true
        · rw [if_pos hio] at q
          refine call_core (vs1 := []) (qs := []) (bsV := []) (bsE := bs1) (f := f) (G := G) (H := H) R1 TmpL.nil T1 (fun _ h => nomatch h) S1 (beq_iff_eq.mp hio) (fun hb => ?_) (fun d k outs v G2 H2 cs ds hF R2 TV T2 dj S2 => ?_) (fun x outs cls dd G2 H2 cs hF R2 TV er S2 => ?_) _ ?_
          · rw [List.nil_append] at hb
            rw [hb] at q; exact q
          · rw [List.nil_append] at hF
            rw [hF] at q
            have o := TV.own
            cases o
            exact q v G2 H2 f1 ds R2 T2 S2
          · rw [List.nil_append] at hF
            rw [hF] at q
            exact q.elim
          · have := T1.own.length
            simp only [List.length_nil]
            omega
        · rw [if_neg hio] at q; exact q.elim
  | some (some (.non, _)), q => exact q.elim
  | some (some (.bl _, _)), q => exact q.elim
  | some (some (.int _, _)), q => exact q.elim
  | some (some (.str _, _)), q => exact q.elim
  | some (some (.scr _, _)), q => exact q.elim
  | some (some (.lst _, _)), q => exact q.elim
  | some (some (.tup _, _)), q => exact q.elim
  | some (some (.dic _ _, _)), q => exact q.elim
  | some (some (.exn _ _, _)), q => exact q.elim
  | some (some (.raw _, _)), q => exact q.elim
  | some none, q => exact q.elim
  | none, q => exact q.elim
theorem good_cit (xc : XC ρ c X) (tk : Takes X W) {j : Nat} {m : E} {ms : Es} {x : Str} {e : Expr} {es : List Expr} {p pos : Pos} (hf : c.fns[j]? = some (x, es.length + 1)) (hg : glB c x = true) (hd : x ≠ ("__debug__" : Str)) (ns : allNS (e :: es) = true)
    (hm : Good ρ c X W m e) (hs : GoodL ρ c X W ms es) (hl : ∀ env ps env1, evEs ρ ms env = .ok ps env1 → ps.length = es.length) : Good ρ c X W (.cit j m ms) (.Call (.Name x p) (e :: es) [] pos) := by
  refine good_dft rfl rfl fun env σ G H f R Q q => fn_syn tk (xc.fns j x _ hf) (xc.gl hg) hd ns ?_
  have q : PostE X.K W σ f G H (((evP ρ m).1 env).bind fun q env1 => (evEs ρ ms env1).bind fun ps env2 => if (ρ j).io == 1 then
      (match (ρ j).F (q :: ps.map freeze1) with
      | .ok d k [_] => .ok (d, k) env2
      | .exc x [_] => .exc x env2
      | _ => .bad) else .bad) Q := q
  refine (hm env σ G H f R).1 _ (bndE (P := fun r => PostE X.K W σ f G H r Q) q (fun _ _ h => h) id fun p env1 v G1 H1 f1 bs1 R1 T1 S1 q => ?_)
  refine hs env1 σ G1 H1 f1 R1 _ ?_
  have hl := hl env1
  generalize hr : evEs ρ ms env1 = r at q hl ⊢
  cases r with
  | bad => exact q.elim
  | exc x e' => exact ExcP.step q S1
  | ok ps env2 =>
    intro vs G2 H2 f2 bs2 R2 T2 S2
    have hl := hl ps env2 rfl
    have q : PostE X.K W σ f G H (if (ρ j).io == 1 then
      (match (ρ j).F (p :: ps.map freeze1) with
      | .ok d k [_] => .ok (d, k) env2
      | .exc x [_] => .exc x env2
      | _ => .bad) else .bad) Q := q
    by_cases hio : ((ρ j).io == 1) = true
    · rw [if_pos hio] at q
      obtain ⟨T1', dj⟩ := T1.step S2
      refine call_core (vs1 := [v]) (qs := [p]) (bsV := bs1) (bsE := bs2) (f := f) (G := G) (H := H) R2 T1'.list T2 dj (S1.trans S2) (beq_iff_eq.mp hio) (fun hb => ?_) (fun d k outs v' G3 H3 cs ds hF R3 TV T3 dj S3 => ?_) (fun x outs cls dd G3 H3 cs hF R3 TV er S3 => ?_) _ ?_
      · rw [List.singleton_append] at hb
        rw [hb] at q; exact q
      · rw [List.singleton_append] at hF
        rw [hF] at q
        have o := TV.own
        cases o with | cons o1 o2 => cases o2
                                     exact q v' G3 H3 f2 ds R3 T3 (S3.lessB fun a h => List.mem_append_right _ h)
      · rw [List.singleton_append] at hF
        rw [hF] at q
        have o := TV.own
        cases o with | cons o1 o2 => cases o2
                                     exact q cls dd G3 H3 f2 R3 er S3.nil
      · have := T2.own.length
        simp only [List.length_singleton]
        omega
    · rw [if_neg hio] at q; exact q.elim
/-! ### slots lent -/
theorem nodupB_cons {i : Nat} {r : List Nat} (h : nodupB (i :: r) = true) : i ∉ r ∧ nodupB r = true := by
  have h : (!(r.contains i) && nodupB r) = true := h
  obtain ⟨h1, h2⟩ := and2 h
  exact ⟨fun hm => by simp [hm] at h1, h2⟩
/-- these slots hold these values -/
inductive VS (σ : L2.St) : List Nat → List V → Prop
  | nil : VS σ [] []
  | cons {i : Nat} {is : List Nat} {v : V} {vs : List V} : σ[i]? = some (some v) → VS σ is vs → VS σ (i :: is) (v :: vs)
theorem VS.length {σ : L2.St} : ∀ {is : List Nat} {vs : List V}, VS σ is vs → vs.length = is.length
  | _, _, .nil => rfl
  | _, _, .cons _ r => congrArg (· + 1) r.length
theorem getSlots_set {env : Ev} {i : Nat} {s : Slot} : ∀ {is : List Nat}, i ∉ is → getSlots (env.set i s) is = getSlots env is
  | [], _ => rfl
  | j :: r, h => by
    have hj : i ≠ j := fun e => h (e ▸ List.mem_cons_self)
    have ih := getSlots_set (env := env) (i := i) (s := s) (is := r) fun z => h (List.mem_cons_of_mem _ z)
    show (match (env.set i s)[j]? with
      | some (some p) => (getSlots (env.set i s) r).map (p :: ·)
      | _ => none) = (match env[j]? with
      | some (some p) => (getSlots env r).map (p :: ·)
      | _ => none)
    rw [List.getElem?_set_ne hj, ih]
theorem take_all : ∀ {is : List Nat} {env : Ev} {qs : List (D × Nat)} {f : Fo}, nodupB is = true → getSlots env is = some qs → Rel K G env σ H f → ∃ vs f' bs, VS σ is vs ∧ Rel K G (wipeE is env) σ H f' ∧ TmpL K G H f' vs qs bs ∧ Step f G H f' bs G H
  | [], env, qs, f, _, h, R => by
    cases h
    exact ⟨[], f, [], .nil, R, TmpL.nil, Step.refl⟩
  | i :: r, env, qs, f, hn, h, R => by
    obtain ⟨n1, n2⟩ := nodupB_cons hn
    unfold getSlots at h
    split at h
    · rename_i p e
      obtain ⟨d, k⟩ := p
      obtain ⟨qs', h', rfl⟩ := Option.map_eq_some_iff.mp h
      obtain ⟨v, hv, t⟩ := R.take e
      have R1 := R.kill (i := i)
      rw [← getSlots_set (i := i) (s := none) n1] at h'
      obtain ⟨vs, f', bs, h1, h2, h3, h4⟩ := take_all n2 h' R1
      obtain ⟨t', dj⟩ := t.step h4
      exact ⟨v :: vs, f', f i ++ bs, .cons hv h1, h2, TmpL.cons t' h3 dj, Step.take.trans h4⟩
    · cases h
theorem Tmp.setf {k : Nat} {v : V} {d : D} {i : Nat} {b : List Addr} (t : Tmp K G H f k v d bs) (h : ∀ a ∈ bs, a ∉ b) : Tmp K G H (setf f i b) k v d bs :=
  ⟨t.own, t.nd, t.gn, fun a ha j hj => by
    by_cases q : j = i
    · subst q; rw [setf_at] at hj; exact h a ha hj
    · rw [setf_ne q] at hj; exact t.ap a ha j hj⟩
theorem TmpL.setf {vs : List V} {ps : List (D × Nat)} {i : Nat} {b : List Addr} (t : TmpL K G H f vs ps bs) (h : ∀ a ∈ bs, a ∉ b) : TmpL K G H (setf f i b) vs ps bs :=
  ⟨t.own, t.nd, t.gn, fun a ha j hj => by
    by_cases q : j = i
    · subst q; rw [setf_at] at hj; exact h a ha hj
    · rw [setf_ne q] at hj; exact t.ap a ha j hj⟩
theorem set_same {i : Nat} {v : V} (h : σ[i]? = some (some v)) : σ.set i (some v) = σ := by
  have hlt : i < σ.length := (List.getElem?_eq_some_iff.mp h).1
  apply List.ext_getElem?
  intro j
  by_cases hj : i = j
  · subst hj; rw [List.getElem?_set_self hlt, h]
  · rw [List.getElem?_set_ne hj]
theorem TmpL.uncons {v : V} {vs : List V} {p : D × Nat} {ps : List (D × Nat)} (t : TmpL K G H f (v :: vs) (p :: ps) bs) : ∃ b1 b2, bs = b1 ++ b2 ∧ Tmp K G H f p.2 v p.1 b1 ∧ TmpL K G H f vs ps b2 ∧ ∀ a ∈ b1, a ∉ b2 := by
  obtain ⟨o, nd, gn, ap⟩ := t
  cases o with
  | cons o1 o2 =>
    obtain ⟨n1, n2, n3⟩ := List.nodup_append.mp nd
    exact ⟨_, _, rfl, ⟨o1, n1, fun a h => gn a (List.mem_append_left _ h), fun a h => ap a (List.mem_append_left _ h)⟩, ⟨o2, n2, fun a h => gn a (List.mem_append_right _ h), fun a h => ap a (List.mem_append_right _ h)⟩, fun a h h' => n3 a h a h' rfl⟩
theorem put_all {f0 : Fo} {G0 H0 : Hp} : ∀ {is : List Nat} {vs : List V} {outs : List (D × Nat)} {env : Ev} {f : Fo} {cs ds : List Addr}, VS σ is vs → Rel K G env σ H f → TmpL K G H f vs outs cs → (∀ a ∈ cs, a ∉ ds) → Step f0 G0 H0 f (cs ++ ds) G H →
    ∃ f', Rel K G (putSlots is outs env) σ H f' ∧ (∀ k v d, Tmp K G H f k v d ds → Tmp K G H f' k v d ds) ∧ Step f0 G0 H0 f' ds G H
  | _, _, _, env, f, cs, ds, .nil, R, T, dj, S => by
    have o := T.own
    cases o
    exact ⟨f, R, fun _ _ _ t => t, S⟩
  | i :: is, v :: vs, outs, env, f, cs, ds, .cons hi hr, R, T, dj, S => by
    cases outs with
    | nil => have o := T.own; cases o
    | cons p outs =>
      obtain ⟨b1, b2, rfl, T1, T2, d12⟩ := T.uncons
      have R1 := R.set (i := i) T1
      rw [set_same hi] at R1
      have S1 : Step f0 G0 H0 (Pv.setf f i b1) (b2 ++ ds) G H := by
        refine ⟨S.keep, S.grow, fun j a h => ?_, fun a h => S.newB a ?_, S.newG, S.there⟩
        · by_cases q : j = i
          · subst q; rw [setf_at] at h; exact S.newB a (List.mem_append_left _ (List.mem_append_left _ h))
          · rw [setf_ne q] at h; exact S.newA j a h
        · rcases List.mem_append.mp h with z | z
          · exact List.mem_append_left _ (List.mem_append_right _ z)
          · exact List.mem_append_right _ z
      obtain ⟨f', h1, h2, h3⟩ := put_all (env := env.set i (some p)) hr R1 (T2.setf fun a h h' => d12 a h' h) (fun a h => dj a (List.mem_append_right _ h)) S1
      exact ⟨f', h1, fun k v d t => h2 k v d (t.setf fun a h h' => dj a (List.mem_append_left _ h') h), h3⟩
theorem SL_app : ∀ {l1 l2 : List Expr} {Q : List V → Hp → Prop} {H : Hp}, SL X l1 σ H (fun xs H1 => SL X l2 σ H1 fun ys H2 => Q (xs ++ ys) H2) → SL X (l1 ++ l2) σ H Q
  | [], l2, Q, H, h => h
  | e :: r, l2, Q, H, h => by
    have h : SEv X e σ H fun x H1 => SL X r σ H1 fun xs H2 => SL X l2 σ H2 fun ys H3 => Q (x :: (xs ++ ys)) H3 := h
    exact SEv.mono h fun v H1 h1 => SL_app h1
theorem vars_syn (xc : XC ρ c X) : ∀ {is : List Nat} {es : List Expr} {vs : List V} {Q : List V → Hp → Prop}, chkIs c is es = true → VS σ is vs → Q vs H → SL X es σ H Q
  | [], [], _, Q, _, .nil, q => q
  | [], _ :: _, _, _, h, _, _ => by cases h
  | _ :: _, [], _, _, h, _, _ => by cases h
  | i :: is, e :: es, _, Q, h, .cons hi hr, q => by
    have h : (notStar e && (match vName e with | some x => varB c i x | none => false) && chkIs c is es) = true := h
    obtain ⟨h1, h3⟩ := and2 h
    obtain ⟨h1, h2⟩ := and2 h1
    split at h2
    · rename_i x ex
      obtain ⟨p, rfl⟩ := vName_eq ex
      exact var_syn xc h2 hi (vars_syn xc h3 hr q)
    · cases h2
end
end Pv
namespace Pv
open PySem PySem.Spec PyProof.Rows L2
section
variable {ρ : Nat → Fn} {c : Ctx} {X : Cx} {K : Fg} {W : WX} {G G1 G2 G' H H1 H2 H' : Hp} {f f1 f2 : Fo} {σ : L2.St} {Q : VK} {env env1 : Ev} {bs bs1 bs2 : List Addr}
def esLen : Es → Nat
  | .nil => 0
  | .cons _ r => esLen r + 1
theorem evEs_len : ∀ {ms : Es} {env : Ev} {ps : List (D × Nat)} {env1 : Ev}, evEs ρ ms env = .ok ps env1 → ps.length = esLen ms
  | .nil, _, _, _, h => by cases h; rfl
  | .cons a r, env, ps, env1, h => by
    have h : (((evP ρ a).1 env).bind fun p env1 => (evEs ρ r env1).bind fun ps env2 => .ok (p :: ps) env2) = .ok ps env1 := h
    obtain ⟨p, e1, _, h⟩ := bind_ok h
    obtain ⟨ps', e2, h2, h⟩ := bind_ok h
    cases h
    show ps'.length + 1 = esLen r + 1
    rw [evEs_len h2]
theorem vs_of {is : List Nat} {qs : List (D × Nat)} (R : Rel K G env σ H f) (h : getSlots env is = some qs) : ∃ vs, VS σ is vs := by
  induction is generalizing qs with
  | nil => exact ⟨[], .nil⟩
  | cons i r ih =>
    unfold getSlots at h
    split at h
    · rename_i p e
      obtain ⟨qs', h', rfl⟩ := Option.map_eq_some_iff.mp h
      obtain ⟨v, hv, _⟩ := R.slot i p.1 p.2 e
      obtain ⟨vs, h2⟩ := ih h'
      exact ⟨v :: vs, .cons hv h2⟩
    · cases h
theorem VS.uniq : ∀ {is : List Nat} {vs ws : List V}, VS σ is vs → VS σ is ws → vs = ws
  | _, _, _, .nil, .nil => rfl
  | _, _, _, .cons h1 r1, .cons h2 r2 => by
    rw [h1] at h2
    cases h2
    rw [r1.uniq r2]
theorem good_cio (xc : XC ρ c X) (tk : Takes X W) {j : Nat} {is : List Nat} {ms : Es} {x : Str} {e : Expr} {es : List Expr} {l1 l2 : List Expr} {p pos : Pos} (hl : e :: es = l1 ++ l2) (hf : c.fns[j]? = some (x, es.length + 1)) (hg : glB c x = true) (hd : x ≠ ("__debug__" : Str)) (ns : allNS (e :: es) = true)
    (hi : chkIs c is l1 = true) (hil : is.length = l1.length) (hs : GoodL ρ c X W ms l2) (hel : esLen ms = l2.length) : Good ρ c X W (.cio j is ms) (.Call (.Name x p) (e :: es) [] pos) := by
  refine good_dft rfl rfl fun env σ G H f R Q q => fn_syn tk (xc.fns j x _ hf) (xc.gl hg) hd ns ?_
  have q : PostE X.K W σ f G H (if ((getSlots env is).isSome && ((ρ j).io == is.length) && nodupB is) = true then (evEs ρ ms env).bind fun ps env1 =>
      (match getSlots env1 is with
      | none => .bad
      | some qs => match (ρ j).F (qs ++ ps.map freeze1) with
        | .ok d k outs => .ok (d, k) (putSlots is outs (wipeE is env1))
        | .exc x outs => .exc x (putSlots is outs (wipeE is env1))
        | .bad => .bad) else .bad) Q := q
  have hn : es.length + 1 = is.length + l2.length := by
    have := congrArg List.length hl
    rw [List.length_append] at this
    rw [hil]; exact this
  by_cases hc : ((getSlots env is).isSome && ((ρ j).io == is.length) && nodupB is) = true
  · rw [if_pos hc] at q
    obtain ⟨hc, hnd⟩ := and2 hc
    obtain ⟨hc, hio⟩ := and2 hc
    obtain ⟨qs0, hq0⟩ := Option.isSome_iff_exists.mp hc
    obtain ⟨vs, hvs⟩ := vs_of R hq0
    have hio := beq_iff_eq.mp hio
    rw [hl]
    refine SL_app (vars_syn xc hi hvs ?_)
    have hel2 := fun ps env1 => evEs_len (ρ := ρ) (ms := ms) (env := env) (ps := ps) (env1 := env1)
    refine hs env σ G H f R _ ?_
    generalize hr : evEs ρ ms env = r at q hel2 ⊢
    cases r with
    | bad => exact q.elim
    | exc x e' => exact q
    | ok ps env1 =>
      intro ws G1 H1 f1 bs1 R1 T1 S1
      have hps := hel2 ps env1 rfl
      have q : PostE X.K W σ f G H (match getSlots env1 is with
        | none => .bad
        | some qs => match (ρ j).F (qs ++ ps.map freeze1) with
          | .ok d k outs => .ok (d, k) (putSlots is outs (wipeE is env1))
          | .exc x outs => .exc x (putSlots is outs (wipeE is env1))
          | .bad => .bad) Q := q
      cases hq : getSlots env1 is with
      | none => rw [hq] at q; exact q.elim
      | some qs =>
        rw [hq] at q
        have q : PostE X.K W σ f G H (match (ρ j).F (qs ++ ps.map freeze1) with
          | .ok d k outs => .ok (d, k) (putSlots is outs (wipeE is env1))
          | .exc x outs => .exc x (putSlots is outs (wipeE is env1))
          | .bad => .bad) Q := q
        obtain ⟨vs', f2, bsV, hvs', R2, TV, S2⟩ := take_all hnd hq R1
        cases hvs.uniq hvs'
        obtain ⟨T2, dj2⟩ := T1.step S2
        refine call_core (vs1 := vs) (qs := qs) (bsV := bsV) (bsE := bs1) (f := f) (G := G) (H := H) R2 TV T2 (fun a h h' => dj2 a h' h) ((S1.trans S2).lessB fun a h => (List.mem_append.mp h).elim (fun z => List.mem_append_right _ z) fun z => List.mem_append_left _ z) (by rw [hio, hvs.length]) (fun hb => ?_) (fun d k outs v G3 H3 cs ds hF R3 TV3 T3 dj S3 => ?_) (fun x outs cls dd G3 H3 cs hF R3 TV3 er S3 => ?_) _ ?_
        · rw [hb] at q; exact q
        · rw [hF] at q
          obtain ⟨f4, R4, hT, S4⟩ := put_all hvs R3 TV3 dj S3
          exact q v G3 H3 f4 ds R4 (hT _ _ _ T3) S4
        · rw [hF] at q
          obtain ⟨f4, R4, hT, S4⟩ := put_all (ds := []) hvs R3 TV3 (fun _ _ h => nomatch h) (by rw [List.append_nil]; exact S3)
          exact q cls dd G3 H3 f4 R4 er S4
        · rw [hn, hvs.length, T1.own.length, hps, hel]
  · rw [if_neg hc] at q; exact q.elim
/-! ### a part of one's own container -/
theorem own_ix (hu : X.A.units + 1 < cLine) {x y : V} {dx dy : D} {bs : List Addr} (ox : Own X.K G H 1 x dx bs) (ry : Rep X.K G y dy) (sb : Sub G H) (h : POr X.K G H (oIx dx dy) Q) : WIx X x y H Q := by
  rcases ox with ⟨f, r, e⟩ | ⟨a, xs, ds, cs, e1, e2, ha, r, e⟩ | ⟨a, xs, ds, cs, e1, e2, ha, r, e⟩ | ⟨a, ks, xs, ds, cs, e1, e2, l, ha, r, e⟩ | ⟨a, ks, xs, ds, cs, e1, e2, l, ha, r, e⟩
  · exact ix_val hu r ry sb h
  · subst e1 e2
    have r := r.rep fun v d b _ o => o.1
    cases ry with
    | int i =>
      obtain ⟨d, ed, h⟩ := por_map h
      obtain ⟨v, ev, rv⟩ := r.atI ed
      exact WIx.of ix_list ⟨_, _, i, v, rfl, rfl, .inl (.inl ha), ev, h.rep sb rv⟩
    | _ => exact h.elim
  · subst e1 e2
    have r := r.rep fun v d b _ o => o.1
    cases ry with
    | int i =>
      obtain ⟨d, ed, h⟩ := por_map h
      obtain ⟨v, ev, rv⟩ := r.atI ed
      exact WIx.of ix_tup ⟨_, _, i, v, rfl, rfl, .inl (.inl ha), ev, h.rep sb rv⟩
    | _ => exact h.elim
  · subst e1 e2
    have r := r.rep fun v d b _ o => o.1
    obtain ⟨hc, h⟩ := por_if h
    obtain ⟨d, ed, hq⟩ := por_map h
    obtain ⟨k, e1, e2⟩ := ry.key hc
    subst e1 e2
    rcases val_get (fun k j => keyD_kqS) k r l with ⟨z1, z2⟩ | ⟨d', w, z1, z2, z3⟩
    · rw [ed] at z1; cases z1
    · rw [ed] at z1; cases z1
      exact WIx.of (ix_dict hu) ⟨_, w, rfl, .inl ⟨_, k, .inl ha, rfl, z2.symm⟩, hq.rep sb z3⟩
  · subst e1 e2
    have r := r.rep fun v d b _ o => o.1
    obtain ⟨hc, h⟩ := por_if h
    obtain ⟨d, ed, hq⟩ := por_map h
    cases ry with
    | tup eb rb =>
      obtain ⟨k, e1, e2⟩ := rb.keys hc
      subst e1 e2
      rcases val_get (g := fun k : List Key => D.tup (k.map keyD)) (fun k j => keyD_kqL) k r l with ⟨z1, z2⟩ | ⟨d', w, z1, z2, z3⟩
      · rw [ed] at z1; cases z1
      · rw [ed] at z1; cases z1
        exact WIx.of (ix_dict hu) ⟨_, w, rfl, .inr ⟨_, k, _, .inl ha, rfl, sb.tup eb, z2.symm⟩, hq.rep sb z3⟩
    | _ => cases hc
theorem good_idx (xc : XC ρ c X) {i : Nat} {m : E} {z : Str} {y : Expr} {p pos : Pos} (hv : varB c i z = true) (hp : noSl y = true) (hm : Good ρ c X W m y) : Good ρ c X W (.idx i m) (.Subscript (.Name z p) y pos) := by
  refine good_dft rfl rfl fun env σ G H f R Q q => ?_
  have q : PostE X.K W σ f G H (if env[i]?.join.isSome = true then ((evP ρ m).1 env).bind fun p env1 => match env1[i]? with
    | some (some (d, 1)) => (oIx d p.1).res env1
    | _ => .bad else .bad) Q := q
  by_cases hc : env[i]?.join.isSome = true
  · rw [if_pos hc] at q
    cases he : env[i]? with
    | none => rw [he] at hc; cases hc
    | some s => cases s with
      | none => rw [he] at hc; cases hc
      | some p0 =>
        obtain ⟨v, hs, _⟩ := R.slot i p0.1 p0.2 he
        refine SEv.of (pe_ix wix_self pe_sem pe_sem (plainIx_of hp)) ?_
        refine var_syn xc hv hs ?_
        refine (hm env σ G H f R).1 _ (bndE (P := fun r => PostE X.K W σ f G H r Q) q (fun _ _ h => h) id fun p env1 u G1 H1 f1 bs1 R1 T1 S1 q => ?_)
        have q' : ∃ d, env1[i]? = some (some (d, 1)) ∧ PostE X.K W σ f G H ((oIx d p.1).res env1) Q := by
          split at q
          · rename_i d e; exact ⟨d, e, q⟩
          · exact q.elim
        obtain ⟨d, e, q⟩ := q'
        obtain ⟨v', hv', o⟩ := R1.slot i d 1 e
        rw [hs] at hv'
        cases hv'
        have R2 := R1.freeze T1.gn T1.ap
        exact own_ix (Nat.lt_of_le_of_lt (Nat.add_le_add_left (by omega) _) xc.un) (o.keep (.addG T1.gn) fun a _ o h => h) T1.rep R2.sub (pure_res R1 T1.gn T1.ap S1 q)
  · rw [if_neg hc] at q; exact q.elim
/-! ### lent slots -/
theorem lendE_length (is : List Nat) : ∀ (j : Nat) (env : Ev), (lendE is j env).length = env.length
  | _, [] => rfl
  | j, none :: r => congrArg (· + 1) (lendE_length is (j + 1) r)
  | j, some (d, k) :: r => congrArg (· + 1) (lendE_length is (j + 1) r)
theorem lendE_get (is : List Nat) : ∀ (j : Nat) (env : Ev) (i : Nat) (d : D) (k : Nat), (lendE is j env)[i]? = some (some (d, k)) → k = 0 ∧ ∃ k', env[i]? = some (some (d, k'))
  | _, [], i, d, k, h => by cases h
  | j, none :: r, i, d, k, h => by
    cases i with
    | zero => cases h
    | succ i => exact lendE_get is (j + 1) r i d k h
  | j, some (d0, k0) :: r, i, d, k, h => by
    cases i with
    | zero =>
      have h : some (if k0 = 0 then some (d0, 0) else if is.contains j = true then some (d0, 0) else none) = some (some (d, k)) := h
      split at h
      · cases h; exact ⟨rfl, k0, rfl⟩
      · split at h
        · cases h; exact ⟨rfl, k0, rfl⟩
        · cases h
    | succ i => exact lendE_get is (j + 1) r i d k h
/-- all that the slots hold -/
def allF (f : Fo) (n : Nat) : List Addr := (List.range n).flatMap f
theorem allF_mem {f : Fo} {n i : Nat} {a : Addr} (h : i < n) (ha : a ∈ f i) : a ∈ allF f n := List.mem_flatMap.mpr ⟨i, List.mem_range.mpr h, ha⟩
theorem Rel.lendR (R : Rel K G env σ H f) (is : List Nat) : Rel K (addG G H (allF f env.length)) (lendE is 0 env) σ H (fun _ => []) := by
  have gn : ∀ a ∈ allF f env.length, G a = none := fun a ha => by
    obtain ⟨i, _, h⟩ := List.mem_flatMap.mp ha
    exact R.gn i a h
  refine ⟨by rw [lendE_length]; exact R.len, fun i d k e => ?_, fun i => .nil, fun i j a h => (nomatch h), fun i a h => (nomatch h), fun i a h => (nomatch h), fun a o e => ?_⟩
  · obtain ⟨rfl, k', e'⟩ := lendE_get is 0 env i d k e
    obtain ⟨v, h1, h2⟩ := R.slot i d k' e'
    exact ⟨v, h1, h2.rep gn fun a ha => allF_mem (List.getElem?_eq_some_iff.mp e').1 ha, rfl⟩
  · by_cases hb : a ∈ allF f env.length
    · rw [addG_in hb] at e; exact .inl e
    · rw [addG_out hb] at e; exact R.sub a o e
theorem Rel.lendB {GL : Hp} {env' : Ev} {f' : Fo} (R : Rel K G env σ H f) (S : Step (fun _ => []) GL H f' bs G' H') (hl : Le G GL) (R' : Rel K G' env' σ H' f') : Rel K G env σ H' f ∧ Step f G H f [] G H' := by
  have kp : ∀ a o, H a = some o → H' a = some o := fun a o h => S.keep a o h fun i hi => nomatch hi
  refine ⟨⟨R.len, fun i d k e => ?_, R.nd, R.dj, R.gn, fun i a h => ?_, R'.sub.le (hl.trans S.grow)⟩, ⟨fun a o h _ => kp a o h, .refl _, fun i a h => .inl ⟨i, h⟩, fun a h => (nomatch h), fun a h => .inl h, S.there⟩⟩
  · obtain ⟨v, h1, h2⟩ := R.slot i d k e
    exact ⟨v, h1, h2.keep (.refl _) fun a _ o h => kp a o h⟩
  · exact S.there a (R.ht i a h)
theorem fullL_ : ∀ {k : Nat} {ds : List D}, fullL k ds = true → ∀ d ∈ ds, full k d = true
  | _, [], _, d, h => nomatch h
  | k, d :: ds, h, e, he => by
    have h : (full k d && fullL k ds) = true := by unfold fullL at h; exact h
    obtain ⟨h1, h2⟩ := and2 h
    rcases List.mem_cons.mp he with z | z
    · rw [z]; exact h1
    · exact fullL_ h2 e z
theorem OwnL.impD {R R' : V → D → List Addr → Prop} : ∀ {vs : List V} {ds : List D} {bs : List Addr}, OwnL R vs ds bs → (∀ v d b, d ∈ ds → R v d b → R' v d b) → OwnL R' vs ds bs
  | _, _, _, .nil, _ => .nil
  | _, _, _, .cons a r, f => .cons (f _ _ _ List.mem_cons_self a) (OwnL.impD r fun v d b hd => f v d b (List.mem_cons_of_mem _ hd))
theorem Own.unlend : ∀ {k : Nat} {v : V} {d : D} {bs : List Addr}, Own K G' H k v d bs → full k d = true → Own K G H k v d bs
  | 0, _, _, _, ⟨r, e⟩, h => ⟨r.flat (by unfold full at h; exact h), e⟩
  | k + 1, _, _, _, q, h => by
    rcases q with ⟨f, r, e⟩ | ⟨a, xs, ds, cs, e1, e2, ha, r, e⟩ | ⟨a, xs, ds, cs, e1, e2, ha, r, e⟩ | ⟨a, ks, xs, ds, cs, e1, e2, l, ha, r, e⟩ | ⟨a, ks, xs, ds, cs, e1, e2, l, ha, r, e⟩
    · exact .inl ⟨f, r.flat f, e⟩
    · subst e2
      have h : fullL k ds = true := by unfold full at h; exact h
      exact .inr (.inl ⟨a, xs, ds, cs, e1, rfl, ha, r.impD fun v d b hd o => Own.unlend o (fullL_ h d hd), e⟩)
    · subst e2
      have h : fullL k ds = true := by unfold full at h; exact h
      exact .inr (.inr (.inl ⟨a, xs, ds, cs, e1, rfl, ha, r.impD fun v d b hd o => Own.unlend o (fullL_ h d hd), e⟩))
    · subst e2
      have h : false = true := by unfold full at h; exact h
      cases h
    · subst e2
      have h : false = true := by unfold full at h; exact h
      cases h
theorem lend_exc {x : D} {is : List Nat} {env' : Ev} (R : Rel K G env σ H f) (gn : ∀ a ∈ allF f env.length, G a = none) (q : ExcP K W σ f G H x env) : ExcP K W σ (fun _ => []) (addG G H (allF f env.length)) H x env' := fun cls dd G' H' f' R' er S => by
  obtain ⟨R2, S2⟩ := R.lendB S (.addG gn) R'
  exact q cls dd G H' f R2 er S2
theorem lend_postE {is : List Nat} {m : E} (R : Rel K G env σ H f) (q : PostE K W σ f G H ((evP ρ (.lend is m)).1 env) Q) : PostE K W σ (fun _ => []) (addG G H (allF f env.length)) H ((evP ρ m).1 (lendE is 0 env)) Q := by
  have gn : ∀ a ∈ allF f env.length, G a = none := fun a ha => by
    obtain ⟨i, _, h⟩ := List.mem_flatMap.mp ha
    exact R.gn i a h
  have q : PostE K W σ f G H (match (evP ρ m).1 (lendE is 0 env) with
    | .ok p _ => if full p.2 p.1 then .ok p env else .bad
    | .exc x _ => .exc x env
    | .bad => .bad) Q := q
  cases hr : (evP ρ m).1 (lendE is 0 env) with
  | bad => rw [hr] at q; exact q.elim
  | exc x e' => rw [hr] at q; exact lend_exc (is := is) R gn q
  | ok p e' =>
    rw [hr] at q
    have q : PostE K W σ f G H (if full p.2 p.1 = true then .ok p env else .bad) Q := q
    intro v G' H' f' bs R' T' S'
    by_cases hf : full p.2 p.1 = true
    · rw [if_pos hf] at q
      obtain ⟨R2, S2⟩ := R.lendB S' (.addG gn) R'
      have nb : ∀ a ∈ bs, H a = none := fun a ha => (S'.newB a ha).elim (fun ⟨j, z⟩ => nomatch z) id
      refine q v G H' f bs R2 ⟨T'.own.unlend hf, T'.nd, fun a ha => ?_, fun a ha i hi => R.ht i a hi (nb a ha)⟩ ⟨S2.keep, S2.grow, S2.newA, fun a ha => .inr (nb a ha), S2.newG, S2.there⟩
      cases z : G a with
      | none => rfl
      | some o => rcases R.sub a o z with q | ⟨_, ob, q⟩ <;> (rw [nb a ha] at q; cases q)
    · rw [if_neg hf] at q; exact q.elim
theorem good_lend {is : List Nat} {m : E} {e : Expr} (hm : Good ρ c X W m e) : Good ρ c X W (.lend is m) e := by
  intro env σ G H f R
  have gn : ∀ a ∈ allF f env.length, G a = none := fun a ha => by
    obtain ⟨i, _, h⟩ := List.mem_flatMap.mp ha
    exact R.gn i a h
  obtain ⟨h1, h2⟩ := hm (lendE is 0 env) σ _ H _ (R.lendR is)
  refine ⟨fun Q q => h1 Q (lend_postE R q), fun Q q => h2 Q ?_⟩
  have q : PostT X.K W σ f G H (match (evP ρ m).2 (lendE is 0 env) with
    | .ok b _ => .ok b env
    | .exc x _ => .exc x env
    | .bad => .bad) Q := q
  cases hr : (evP ρ m).2 (lendE is 0 env) with
  | bad => rw [hr] at q; exact q.elim
  | exc x e' => rw [hr] at q; exact lend_exc (is := is) R gn q
  | ok b e' =>
    rw [hr] at q
    intro G' H' f' R' S'
    obtain ⟨R2, S2⟩ := R.lendB S' (.addG gn) R'
    exact q G H' f R2 S2
theorem good_fnv (xc : XC ρ c X) {x : Str} {p : Pos} (h1 : glB c x = true) (h2 : x ≠ ("__debug__" : Str)) (h3 : x ∈ c.fns.map (·.1)) : Good ρ c X W (.fnv x) (.Name x p) := by
  refine good_dft rfl rfl fun env σ G H f R Q q => ?_
  obtain ⟨⟨y, n⟩, hm, rfl⟩ := List.mem_map.mp h3
  obtain ⟨j, hj⟩ := List.getElem?_of_mem hm
  exact SEv.of (pe_glob (xc.gl h1) (xc.fns j y n hj).mg (v := .ref (He.ga X.K y)) rfl (beq_eq_false_iff_ne.mpr h2)) (q (.ref (He.ga X.K y)) G H f [] R (Tmp.of_rep (.fn y)) Step.refl)
end
end Pv
namespace Pv
open PySem PySem.Spec PyProof.Rows L2
section
variable {ρ : Nat → Fn} {c : Ctx} {X : Cx} {K : Fg} {W : WX} {G G1 G2 G' H H1 H2 H' : Hp} {f f0 f1 f2 : Fo} {σ : L2.St} {Q : VK} {env env1 : Ev} {bs bs1 bs2 : List Addr}
/-! ### targets -/
def SGv (X : Cx) (tg : Expr) : TG := fun v σ H Q => ∀ (pins : List (Addr × Obj)) (s : Shared) (u : Value), Inv X pins σ H s → RelV v u → wpAny (model X.prog X.w) X.A (assign tg X.env u) (fun _ s' => ∃ σ' H', Inv X pins σ' H' s' ∧ Q σ' H') X.xe s
theorem pg_sem {tg : Expr} : PG X tg (SGv X tg) := ⟨fun pins s σ H v u Q I r h => h pins s u I r⟩
theorem SGv.of {t : TG} {tg : Expr} (h : PG X tg t) {v : V} {Q : L2.St → Hp → Prop} (q : t v σ H Q) : SGv X tg v σ H Q := fun pins s u I r => h.run pins s σ H v u Q I r q
def SGL (X : Cx) : List Expr → TGs
  | [] => gNil
  | e :: r => gCons (SGv X e) (SGL X r)
theorem as_len : ∀ (es : List Expr) (env : Env), (assignEach es env).length = es.length
  | [], _ => rfl
  | e :: r, env => by cases e <;> exact congrArg (· + 1) (as_len r env)
theorem as_one {e : Expr} {es : List Expr} {env : Env} (h : notStar e = true) : assignEach (e :: es) env = (false, assign e env) :: assignEach es env := by
  cases e <;> first | rfl | cases h
theorem as_star : ∀ {es : List Expr} {env : Env}, allNS es = true → (assignEach es env).findIdx? (·.1) = none
  | [], _, _ => rfl
  | e :: r, env, h => by
    have h : (notStar e && allNS r) = true := h
    obtain ⟨h1, h2⟩ := and2 h
    rw [as_one h1, List.findIdx?_cons]
    simp [as_star (es := r) (env := env) h2]
theorem pgs_sem : ∀ {es : List Expr}, allNS es = true → PGs X es (SGL X es)
  | [], _ => pgs_nil
  | e :: r, h => by
    have h : (notStar e && allNS r) = true := h
    obtain ⟨h1, h2⟩ := and2 h
    exact pgs_cons pg_sem (pgs_sem h2) (by rw [as_one h1]; rfl)
/-- the same but for these -/
def SameBut (is : List Nat) (σ σ' : L2.St) : Prop := σ'.length = σ.length ∧ ∀ i, i ∉ is → σ'[i]? = σ[i]?
theorem SameBut.trans {a b : List Nat} {σ1 σ2 σ3 : L2.St} (h1 : SameBut a σ1 σ2) (h2 : SameBut b σ2 σ3) : SameBut (a ++ b) σ1 σ3 :=
  ⟨h2.1.trans h1.1, fun i hi => (h2.2 i fun z => hi (List.mem_append_right _ z)).trans (h1.2 i fun z => hi (List.mem_append_left _ z))⟩
theorem chkTs_ns : ∀ {l : T} {es : List Expr}, chkTs c l es = true → allNS es = true
  | .nil, [], _ => rfl
  | .nil, _ :: _, h => by unfold chkTs at h; cases h
  | .cons a b, [], h => by unfold chkTs at h; cases h
  | .cons a b, e :: es, h => by
    have h : (notStar e && chkT c a e && chkTs c b es) = true := by unfold chkTs at h; exact h
    obtain ⟨h1, h3⟩ := and2 h
    obtain ⟨h1, h2⟩ := and2 h1
    show (notStar e && allNS es) = true
    rw [h1, chkTs_ns h3]; rfl
  | .nm _, [], h => by unfold chkTs at h; cases h
  | .nm _, _ :: _, h => by unfold chkTs at h; cases h
  | .tp _, [], h => by unfold chkTs at h; cases h
  | .tp _, _ :: _, h => by unfold chkTs at h; cases h
def PostG (K : Fg) (is : List Nat) (σ : L2.St) (f : Fo) (G H : Hp) (env1 : Ev) (Q : L2.St → Hp → Prop) : Prop :=
  ∀ σ' f', Rel K G env1 σ' H f' → Step f G H f' [] G H → SameBut is σ σ' → Q σ' H
theorem OwnL.tmps {k : Nat} : ∀ {vs : List V} {ds : List D} {bs : List Addr}, OwnL (Own K G H k) vs ds bs → OwnP K G H vs (ds.map fun d => (d, k)) bs
  | _, _, _, .nil => .nil
  | _, _, _, .cons a r => .cons a r.tmps
theorem RepL.tmps : ∀ {vs : List V} {ds : List D}, RepL K G vs ds → OwnP K G H vs (ds.map fun d => (d, 0)) []
  | _, _, .nil => .nil
  | _, _, .cons a r => OwnP.cons (b := []) (bs := []) ⟨a, rfl⟩ r.tmps
/-- a sequence that is taken apart -/
theorem Tmp.parts {k : Nat} {v : V} {d : D} {ds : List D} (hd : d = .tup ds ∨ d = .lst ds) (R : Rel K G env σ H f) (T : Tmp K G H f k v d bs) :
    ∃ a xs cs, v = .ref a ∧ ((d = .tup ds ∧ SqT K H a xs) ∨ (d = .lst ds ∧ SqL K H a xs)) ∧ xs.length = ds.length ∧ TmpL K G H f xs (ds.map fun d => (d, k - 1)) cs ∧ ∀ a ∈ cs, a ∈ bs := by
  obtain ⟨o, nd, gn, ap⟩ := T
  have z0 : ∀ {xs : List V}, RepL K G xs ds → TmpL K G H f xs (ds.map fun d => (d, 0)) [] := fun r => ⟨r.tmps, .nil, fun _ h => (nomatch h), fun _ h => (nomatch h)⟩
  cases k with
  | zero =>
    obtain ⟨r, e⟩ := o
    rcases hd with hd | hd
    · subst hd
      cases r with
      | tup e r => exact ⟨_, _, [], rfl, .inl ⟨rfl, .inl (.inl (R.sub.tup e))⟩, r.length, z0 r, fun _ h => nomatch h⟩
    · subst hd
      cases r with
      | lst e r => exact ⟨_, _, [], rfl, .inr ⟨rfl, .inl (R.sub.rd e)⟩, r.length, z0 r, fun _ h => nomatch h⟩
  | succ k =>
    rcases o with ⟨f, r, e⟩ | ⟨a, xs, es, cs, e1, e2, ha, r, e⟩ | ⟨a, xs, es, cs, e1, e2, ha, r, e⟩ | ⟨a, ks, xs, es, cs, e1, e2, l, ha, r, e⟩ | ⟨a, ks, xs, es, cs, e1, e2, l, ha, r, e⟩
    · rcases hd with hd | hd <;> (subst hd; cases f)
    · rcases hd with hd | hd
      · subst hd; cases e2
      · subst hd; cases e2; subst e
        exact ⟨a, xs, cs, e1, .inr ⟨rfl, .inl (.inl ha)⟩, r.length, ⟨r.tmps, (List.nodup_cons.mp nd).2, fun a h => gn a (List.mem_cons_of_mem _ h), fun a h => ap a (List.mem_cons_of_mem _ h)⟩, fun a h => List.mem_cons_of_mem _ h⟩
    · rcases hd with hd | hd
      · subst hd; cases e2; subst e
        exact ⟨a, xs, cs, e1, .inl ⟨rfl, .inl (.inl ha)⟩, r.length, ⟨r.tmps, (List.nodup_cons.mp nd).2, fun a h => gn a (List.mem_cons_of_mem _ h), fun a h => ap a (List.mem_cons_of_mem _ h)⟩, fun a h => List.mem_cons_of_mem _ h⟩
      · subst hd; cases e2
    · rcases hd with hd | hd <;> (subst hd; cases e2)
    · rcases hd with hd | hd <;> (subst hd; cases e2)
mutual
theorem good_T (xc : XC ρ c X) : ∀ {t : T} {tg : Expr} {v : V} {d : D} {k : Nat} {env env1 : Ev} {σ : L2.St} {G H : Hp} {f : Fo} {bs : List Addr} {Q : L2.St → Hp → Prop}, chkT c t tg = true → Rel K G env σ H f → X.K = K → Tmp K G H f k v d bs → bindT t d k env = some env1 →
    (∀ σ' f', Rel K G env1 σ' H f' → (∀ i a, a ∈ f' i → (∃ j, a ∈ f j) ∨ a ∈ bs) → SameBut (tIdx t) σ σ' → Q σ' H) → SGv X tg v σ H Q
  | .nm i, tg, v, d, k, env, env1, σ, G, H, f, bs, Q, hc, R, hK, T, hb, q => by
    have hc : (match vName tg with
      | some x => (c.N[i]? == some x) && locB c x
      | none => false) = true := by unfold chkT at hc; exact hc
    split at hc
    · rename_i x ex
      obtain ⟨p, rfl⟩ := vName_eq ex
      obtain ⟨h1, h2⟩ := and2 hc
      obtain ⟨l1, l2⟩ := xc.loc h2
      have hb : (if i < env.length then some (env.set i (some (d, k))) else none) = some env1 := hb
      split at hb
      · cases hb
        refine SGv.of (pg_name xc.nd (by rw [xc.n]; exact beq_iff_eq.mp h1) l1 l2) ?_
        refine q _ _ (R.set T) (fun j a h => ?_) ⟨by simp, fun j hj => ?_⟩
        · by_cases hj : j = i
          · subst hj; rw [setf_at] at h; exact .inr h
          · rw [setf_ne hj] at h; exact .inl ⟨j, h⟩
        · have hj : j ≠ i := fun e => hj (e ▸ List.mem_cons_self)
          rw [List.getElem?_set_ne (Ne.symm hj)]
      · cases hb
    · cases hc
  | .tp l, tg, v, d, k, env, env1, σ, G, H, f, bs, Q, hc, R, hK, T, hb, q => by
    have hc : (match vTup tg with
      | some es => chkTs c l es
      | none => false) = true := by unfold chkT at hc; exact hc
    split at hc
    · rename_i es ex
      obtain ⟨k', p, rfl⟩ := vTup_eq ex
      have hd : ∃ ds, (d = .tup ds ∨ d = .lst ds) ∧ bindTs l ds (k - 1) env = some env1 := by
        cases d with
        | tup ds => exact ⟨ds, .inl rfl, by unfold bindT at hb; exact hb⟩
        | lst ds => exact ⟨ds, .inr rfl, by unfold bindT at hb; exact hb⟩
        | _ => unfold bindT at hb; cases hb
      obtain ⟨ds, hd, hb⟩ := hd
      obtain ⟨a, xs, cs, rfl, hs, hl, TL, hm⟩ := T.parts hd R
      have ns := chkTs_ns hc
      have hn : (assignEach es X.env).length = ds.length := by
        rw [as_len, bindTs_len hc hb]
      have hst := as_star (env := X.env) ns
      have core := good_Ts (Q := Q) xc hc R hK TL hb fun σ' f' R' h1 h2 => q σ' f' R' (fun i a h => (h1 i a h).imp id (hm a)) h2
      rcases hs with ⟨_, hs⟩ | ⟨_, hs⟩
      · exact SGv.of (pg_tup xc.calm (pgs_sem ns) hn hst) ⟨a, xs, rfl, by rw [hK]; exact hs, hl, core⟩
      · exact SGv.of (pg_unl xc.calm (pgs_sem ns) hn hst) ⟨a, xs, rfl, by rw [hK]; exact hs, hl, core⟩
    · cases hc
  | .nil, tg, v, d, k, env, env1, σ, G, H, f, bs, Q, hc, R, hK, T, hb, q => by unfold chkT at hc; cases hc
  | .cons _ _, tg, v, d, k, env, env1, σ, G, H, f, bs, Q, hc, R, hK, T, hb, q => by unfold chkT at hc; cases hc
theorem bindTs_len : ∀ {l : T} {es : List Expr} {ds : List D} {k : Nat} {env env1 : Ev}, chkTs c l es = true → bindTs l ds k env = some env1 → es.length = ds.length
  | .nil, [], [], _, _, _, _, _ => rfl
  | .nil, [], _ :: _, _, _, _, _, h => by unfold bindTs at h; cases h
  | .nil, _ :: _, _, _, _, _, h, _ => by unfold chkTs at h; cases h
  | .cons a b, [], _, _, _, _, h, _ => by unfold chkTs at h; cases h
  | .cons a b, e :: es, [], _, _, _, _, h => by unfold bindTs at h; cases h
  | .cons a b, e :: es, d :: ds, k, env, env1, h, hb => by
    have h : (notStar e && chkT c a e && chkTs c b es) = true := by unfold chkTs at h; exact h
    have hb : (bindT a d k env).bind (bindTs b ds k) = some env1 := by unfold bindTs at hb; exact hb
    obtain ⟨env2, _, hb⟩ := Option.bind_eq_some_iff.mp hb
    exact congrArg (· + 1) (bindTs_len (and2 h).2 hb)
  | .nm _, [], _, _, _, _, h, _ => by unfold chkTs at h; cases h
  | .nm _, _ :: _, _, _, _, _, h, _ => by unfold chkTs at h; cases h
  | .tp _, [], _, _, _, _, h, _ => by unfold chkTs at h; cases h
  | .tp _, _ :: _, _, _, _, _, h, _ => by unfold chkTs at h; cases h
theorem good_Ts (xc : XC ρ c X) : ∀ {l : T} {es : List Expr} {vs : List V} {ds : List D} {k : Nat} {env env1 : Ev} {σ : L2.St} {G H : Hp} {f : Fo} {bs : List Addr} {Q : L2.St → Hp → Prop}, chkTs c l es = true → Rel K G env σ H f → X.K = K → TmpL K G H f vs (ds.map fun d => (d, k)) bs → bindTs l ds k env = some env1 →
    (∀ σ' f', Rel K G env1 σ' H f' → (∀ i a, a ∈ f' i → (∃ j, a ∈ f j) ∨ a ∈ bs) → SameBut (tIdx l) σ σ' → Q σ' H) → SGL X es vs σ H Q
  | .nil, [], vs, [], k, env, env1, σ, G, H, f, bs, Q, hc, R, hK, T, hb, q => by
    have o := T.own
    cases o
    have hb : some env = some env1 := by unfold bindTs at hb; exact hb
    cases hb
    exact ⟨rfl, q σ f R (fun i a h => .inl ⟨i, h⟩) ⟨rfl, fun _ _ => rfl⟩⟩
  | .nil, [], vs, _ :: _, k, env, env1, σ, G, H, f, bs, Q, hc, R, hK, T, hb, q => by unfold bindTs at hb; cases hb
  | .nil, _ :: _, vs, ds, k, env, env1, σ, G, H, f, bs, Q, hc, R, hK, T, hb, q => by unfold chkTs at hc; cases hc
  | .cons a b, [], vs, ds, k, env, env1, σ, G, H, f, bs, Q, hc, R, hK, T, hb, q => by unfold chkTs at hc; cases hc
  | .cons a b, e :: es, vs, [], k, env, env1, σ, G, H, f, bs, Q, hc, R, hK, T, hb, q => by unfold bindTs at hb; cases hb
  | .cons a b, e :: es, vs, d :: ds, k, env, env1, σ, G, H, f, bs, Q, hc, R, hK, T, hb, q => by
    have hc : (notStar e && chkT c a e && chkTs c b es) = true := by unfold chkTs at hc; exact hc
    have hb : (bindT a d k env).bind (bindTs b ds k) = some env1 := by unfold bindTs at hb; exact hb
    obtain ⟨hc1, hc3⟩ := and2 hc
    obtain ⟨hc1, hc2⟩ := and2 hc1
    obtain ⟨env2, hb1, hb2⟩ := Option.bind_eq_some_iff.mp hb
    cases vs with
    | nil => have o := T.own; cases o
    | cons v vs =>
      obtain ⟨b1, b2, rfl, T1, T2, dj⟩ := T.uncons (p := (d, k)) (ps := ds.map fun d => (d, k))
      refine ⟨v, vs, rfl, good_T xc hc2 R hK T1 hb1 fun σ' f' R' hf sm => ?_⟩
      have T2' : TmpL K G H f' vs (ds.map fun d => (d, k)) b2 := ⟨T2.own, T2.nd, T2.gn, fun a ha i hi => by
        rcases hf i a hi with ⟨j, z⟩ | z
        · exact T2.ap a ha j z
        · exact dj a z ha⟩
      refine good_Ts xc hc3 R' hK T2' hb2 fun σ2 f2 R2 hf2 sm2 => q σ2 f2 R2 (fun i a h => ?_) (sm.trans sm2)
      rcases hf2 i a h with ⟨j, z⟩ | z
      · exact (hf j a z).imp id fun z => List.mem_append_left _ z
      · exact .inr (List.mem_append_right _ z)
  | .nm _, [], vs, ds, k, env, env1, σ, G, H, f, bs, Q, hc, R, hK, T, hb, q => by unfold chkTs at hc; cases hc
  | .nm _, _ :: _, vs, ds, k, env, env1, σ, G, H, f, bs, Q, hc, R, hK, T, hb, q => by unfold chkTs at hc; cases hc
  | .tp _, [], vs, ds, k, env, env1, σ, G, H, f, bs, Q, hc, R, hK, T, hb, q => by unfold chkTs at hc; cases hc
  | .tp _, _ :: _, vs, ds, k, env, env1, σ, G, H, f, bs, Q, hc, R, hK, T, hb, q => by unfold chkTs at hc; cases hc
end
theorem bind_step (S : Step f0 G1 H1 f bs G H) (h : ∀ i a, a ∈ f2 i → (∃ j, a ∈ f j) ∨ a ∈ bs) : Step f0 G1 H1 f2 [] G H :=
  ⟨S.keep, S.grow, fun i a hi => by
    rcases h i a hi with ⟨j, z⟩ | z
    · exact S.newA j a z
    · exact S.newB a z, fun _ h => (nomatch h), S.newG, S.there⟩
end
end Pv
namespace Pv
open PySem PySem.Spec PyProof.Rows L2
section
variable {ρ : Nat → Fn} {c : Ctx} {X : Cx} {K : Fg} {W : WX} {G G1 G2 G' H H1 H2 H' : Hp} {f f0 f1 f2 : Fo} {σ : L2.St} {Q : VK} {env env1 : Ev} {bs bs1 bs2 : List Addr}
/-! ### one's own container changed -/
theorem own_write {G0 H0 : Hp} {p : Addr} {o : HO} {k : Nat} {d : D} {cs : List Addr} (R : Rel K G env σ H f) (S : Step f0 G0 H0 f (p :: cs) G H) (hp : H p ≠ none) (gp : G p = none) (ap : ∀ i, p ∉ f i) (pc : p ∉ cs) (nd : cs.Nodup)
    (gn : ∀ a ∈ cs, G a = none) (apc : ∀ a ∈ cs, ∀ i, a ∉ f i) (mk : ∀ H', H' p = some o → (∀ a, a ≠ p → H' a = H a) → Own K G H' k (.ref p) d (p :: cs)) :
    Rel K G env σ (upd H p o) f ∧ Tmp K G (upd H p o) f k (.ref p) d (p :: cs) ∧ Step f0 G0 H0 f (p :: cs) G (upd H p o) := by
  have kp : ∀ a, a ≠ p → upd H p o a = H a := fun a h => upd_ne h
  refine ⟨⟨R.len, fun i d k e => ?_, R.nd, R.dj, R.gn, fun i a h => ?_, fun a u e => ?_⟩, ⟨mk _ upd_same kp, List.nodup_cons.mpr ⟨pc, nd⟩, fun a ha => ?_, fun a ha i hi => ?_⟩, ⟨fun a u e hf => ?_, S.grow, S.newA, S.newB, S.newG, fun a h => ?_⟩⟩
  · obtain ⟨v, h1, h2⟩ := R.slot i d k e
    exact ⟨v, h1, h2.keep (.refl _) fun a ha u e => by rw [kp a fun z => ap i (z ▸ ha)]; exact e⟩
  · rw [kp a fun z => ap i (z ▸ h)]; exact R.ht i a h
  · rw [kp a fun z => by rw [z, gp] at e; cases e]; exact R.sub a u e
  · rcases List.mem_cons.mp ha with e | e
    · rw [e]; exact gp
    · exact gn a e
  · rcases List.mem_cons.mp ha with e | e
    · rw [e] at hi; exact ap i hi
    · exact apc a e i hi
  · have hne : a ≠ p := fun z => by
      subst z
      rcases S.newB a List.mem_cons_self with ⟨j, q⟩ | q
      · exact hf j q
      · rw [e] at q; cases q
    rw [kp a hne]; exact S.keep a u e hf
  · by_cases z : a = p
    · subst z; rw [upd_same]; exact fun z => nomatch z
    · rw [kp a z]; exact S.there a h
/-- one's own list, laid open -/
theorem Tmp.lst {k : Nat} {v : V} {ds : List D} (T : Tmp K G H f (k + 1) v (.lst ds) bs) : ∃ a xs cs, v = .ref a ∧ H a = some (.lst xs) ∧ OwnL (Own K G H k) xs ds cs ∧ bs = a :: cs := by
  rcases T.own with ⟨f, r, e⟩ | ⟨a, xs, es, cs, e1, e2, ha, r, e⟩ | ⟨a, xs, es, cs, e1, e2, ha, r, e⟩ | ⟨a, ks, xs, es, cs, e1, e2, l, ha, r, e⟩ | ⟨a, ks, xs, es, cs, e1, e2, l, ha, r, e⟩
  · cases f
  · cases e2; exact ⟨a, xs, cs, e1, ha, r, e⟩
  · cases e2
  · cases e2
  · cases e2
theorem OwnL.append {R : V → D → List Addr → Prop} : ∀ {vs ws : List V} {ds es : List D} {bs cs : List Addr}, OwnL R vs ds bs → OwnL R ws es cs → OwnL R (vs ++ ws) (ds ++ es) (bs ++ cs)
  | _, _, _, _, _, _, .nil, r => r
  | _, _, _, _, _, _, .cons a l, r => by rw [List.append_assoc]; exact .cons a (OwnL.append l r)
/-- a child is what depth n asks -/
theorem okd_own {n k : Nat} {v : V} {d : D} {b : List Addr} (hn : n ≠ 0) (h : okd n (d, k) = true) (o : Own K G H k v d b) : Own K G H n v d b := by
  have h1 : (n == 0 || k == n || Pv.flat d) = true := h
  rw [Bool.or_eq_true, Bool.or_eq_true] at h1
  rcases h1 with (h1 | h1) | h1
  · exact absurd (beq_iff_eq.mp h1) hn
  · have e := beq_iff_eq.mp h1
    subst e; exact o
  · obtain ⟨q, e⟩ := o.flat (G' := G) h1
    subst e; exact Own.of_flat q h1
/-- a thing put behind one's own list -/
theorem own_app {G0 H0 : Hp} {n k : Nat} {D : Addr} {ys : List Pv.D} {y : V} {d : Pv.D} (R : Rel K G env σ H f) (T : Tmp K G H f (n + 1) (.ref D) (.lst ys) bs) (Ty : Tmp K G H f k y d bs2) (dj : ∀ a ∈ bs, a ∉ bs2) (ok : okd n (d, k) = true)
    (S : Step f0 G0 H0 f (bs ++ bs2) G H) : ∃ acc G5 bs5, H D = some (.lst acc) ∧ acc.length = ys.length ∧ Le G G5 ∧ Rel K G5 env σ (upd H D (.lst (acc ++ [y]))) f ∧ Tmp K G5 (upd H D (.lst (acc ++ [y]))) f (n + 1) (.ref D) (.lst (ys ++ [d])) bs5 ∧
      Step f0 G0 H0 f bs5 G5 (upd H D (.lst (acc ++ [y]))) := by
  obtain ⟨a, acc, cs, e, ha, r, eb⟩ := T.lst
  cases e
  subst eb
  have hD : H D ≠ none := by rw [ha]; exact fun z => nomatch z
  have gD := T.gn D List.mem_cons_self
  have apD := T.ap D List.mem_cons_self
  obtain ⟨pc, ndc⟩ := List.nodup_cons.mp T.nd
  cases n with
  | zero =>
    -- what is put there is frozen
    have R1 := R.freeze Ty.gn Ty.ap
    have S1 := S.freeze Ty.gn fun a h => S.newB a (List.mem_append_right _ h)
    have gD1 : addG G H bs2 D = none := by rw [addG_out (dj D List.mem_cons_self)]; exact gD
    have hcs : cs = [] := by
      have aux : ∀ {vs : List V} {ds : List Pv.D} {b : List Addr}, OwnL (Own K G H 0) vs ds b → b = [] := by
        intro vs ds b h
        induction h with
        | nil => rfl
        | cons a r ih => rw [a.2, ih]; rfl
      exact aux r
    subst hcs
    have rr : RepL K (addG G H bs2) (acc ++ [y]) (ys ++ [d]) := ((r.rep fun v d b _ o => o.1).mono (.addG Ty.gn)).append (.cons Ty.rep .nil)
    obtain ⟨h1, h2, h3⟩ := own_write (k := 1) (o := .lst (acc ++ [y])) (d := .lst (ys ++ [d])) (cs := []) R1 (S1.lessB fun a h => List.mem_append_left _ h) hD gD1 apD (fun z => nomatch z) .nil (fun _ z => nomatch z) (fun _ z => nomatch z)
      fun H' e _ => .inr (.inl ⟨D, _, _, [], rfl, rfl, e, rr.own0, rfl⟩)
    exact ⟨acc, _, _, ha, r.length, .addG Ty.gn, h1, h2, h3⟩
  | succ n =>
    have hnd : (cs ++ bs2).Nodup := List.nodup_append.mpr ⟨ndc, Ty.nd, fun a h b h' e => dj a (List.mem_cons_of_mem _ h) (e ▸ h')⟩
    obtain ⟨h1, h2, h3⟩ := own_write (k := n + 1 + 1) (o := .lst (acc ++ [y])) (d := .lst (ys ++ [d])) (cs := cs ++ bs2) R (S.lessB fun a h => h) hD gD apD
      (fun z => (List.mem_append.mp z).elim pc (dj D List.mem_cons_self)) hnd (fun a h => (List.mem_append.mp h).elim (fun z => T.gn a (List.mem_cons_of_mem _ z)) (Ty.gn a)) (fun a h => (List.mem_append.mp h).elim (fun z => T.ap a (List.mem_cons_of_mem _ z)) (Ty.ap a))
      fun H' e hk => .inr (.inl ⟨D, _, _, cs ++ bs2, rfl, rfl, e, by
        have o2 : OwnL (Own K G H (n + 1)) [y] [d] bs2 := by
          have := OwnL.cons (R := Own K G H (n + 1)) (okd_own (Nat.succ_ne_zero n) ok Ty.own) OwnL.nil
          rwa [List.append_nil] at this
        refine (r.append o2).imp fun v d b hb o => o.keep (.refl _) fun a h u e => ?_
        rw [hk a fun z => ?_]; exact e
        subst z
        exact (List.mem_append.mp (hb a h)).elim pc (dj a List.mem_cons_self), rfl⟩)
    exact ⟨acc, G, _, ha, r.length, .refl _, h1, h2, h3⟩
/-! ### a comprehension -/
theorem wipe_get {i : Nat} : ∀ {vs : List Nat}, i ∉ vs → (L2.wipe σ vs)[i]? = σ[i]?
  | [], _ => rfl
  | v :: vs, h => by
    show ((L2.wipe σ vs).set v none)[i]? = _
    have hne : v ≠ i := fun e => h (e ▸ List.mem_cons_self)
    rw [List.getElem?_set_ne hne]
    exact wipe_get fun z => h (List.mem_cons_of_mem _ z)
theorem wipe_in {i : Nat} : ∀ {vs : List Nat}, i ∈ vs → i < σ.length → (L2.wipe σ vs)[i]? = some none
  | v :: vs, h, hl => by
    show ((L2.wipe σ vs).set v none)[i]? = _
    by_cases e : v = i
    · subst e
      rw [List.getElem?_set_self (by rw [wipe_length]; exact hl)]
    · rw [List.getElem?_set_ne e]
      exact wipe_in ((List.mem_cons.mp h).resolve_left fun z => e z.symm) hl
theorem wipe_eq {σ2 : L2.St} {vs is : List Nat} (h : SameBut is (L2.wipe σ vs) σ2) (hi : ∀ i ∈ is, i ∈ vs) : L2.wipe σ2 vs = L2.wipe σ vs := by
  have hl : σ2.length = σ.length := by rw [h.1, wipe_length]
  apply List.ext_getElem?
  intro i
  by_cases hv : i ∈ vs
  · by_cases hlt : i < σ.length
    · rw [wipe_in hv (by rw [hl]; exact hlt), wipe_in hv hlt]
    · rw [List.getElem?_eq_none (by rw [wipe_length, hl]; omega), List.getElem?_eq_none (by rw [wipe_length]; omega)]
  · rw [wipe_get hv, h.2 i fun z => hv (hi i z)]
theorem wipeE_get {own : List Nat} : ∀ {env : Ev} {i : Nat} {d : D} {k : Nat}, (wipeE own env)[i]? = some (some (d, k)) → env[i]? = some (some (d, k)) ∧ i ∉ own := by
  induction own with
  | nil => exact fun h => ⟨h, fun z => nomatch z⟩
  | cons j r ih =>
    intro env i d k h
    have h : (wipeE r (env.set j none))[i]? = some (some (d, k)) := h
    obtain ⟨h1, h2⟩ := ih h
    by_cases e : j = i
    · subst e
      by_cases hlt : j < env.length
      · rw [List.getElem?_set_self hlt] at h1; cases h1
      · rw [List.getElem?_eq_none (by simpa using hlt)] at h1; cases h1
    · rw [List.getElem?_set_ne e] at h1
      exact ⟨h1, fun z => (List.mem_cons.mp z).elim (fun q => e q.symm) h2⟩
theorem wipeE_length {own : List Nat} : ∀ {env : Ev}, (wipeE own env).length = env.length := by
  induction own with
  | nil => exact rfl
  | cons j r ih =>
    intro env
    show (wipeE r (env.set j none)).length = _
    rw [ih, List.length_set]
theorem Rel.wiped {own : List Nat} (R : Rel K G env σ H f) : Rel K G (wipeE own env) (L2.wipe σ own) H f := by
  refine ⟨by rw [wipeE_length, wipe_length]; exact R.len, fun i d k e => ?_, R.nd, R.dj, R.gn, R.ht, R.sub⟩
  obtain ⟨h1, h2⟩ := wipeE_get e
  obtain ⟨v, h3, h4⟩ := R.slot i d k h1
  exact ⟨v, by rw [wipe_get h2]; exact h3, h4⟩
theorem rst_length {own : List Nat} {env0 : Ev} : ∀ {env : Ev}, (rst own env0 env).length = env.length := by
  induction own with
  | nil => exact rfl
  | cons j r ih =>
    intro env
    show (rst r env0 (env.set j _)).length = _
    rw [ih, List.length_set]
theorem rst_get {own : List Nat} {env0 : Ev} : ∀ {env : Ev} {i : Nat} {s : Slot}, (rst own env0 env)[i]? = some s → (i ∈ own ∧ s = env0[i]?.join) ∨ (i ∉ own ∧ env[i]? = some s) := by
  induction own with
  | nil => exact fun h => .inr ⟨(fun z => nomatch z), h⟩
  | cons j r ih =>
    intro env i s h
    have h : (rst r env0 (env.set j (env0[j]?.join)))[i]? = some s := h
    rcases ih h with ⟨h1, h2⟩ | ⟨h1, h2⟩
    · exact .inl ⟨List.mem_cons_of_mem _ h1, h2⟩
    · by_cases e : j = i
      · subst e
        by_cases hlt : j < env.length
        · rw [List.getElem?_set_self hlt] at h2
          cases h2
          exact .inl ⟨List.mem_cons_self, rfl⟩
        · rw [List.getElem?_eq_none (by simpa using hlt)] at h2; cases h2
      · rw [List.getElem?_set_ne e] at h2
        exact .inr ⟨fun z => (List.mem_cons.mp z).elim (fun q => e q.symm) h1, h2⟩
theorem ownOk_get {own : List Nat} {env0 : Ev} (h : ownOk own env0 = true) {i : Nat} (hi : i ∈ own) {d : D} {k : Nat} (e : env0[i]?.join = some (d, k)) : k = 0 ∧ env0[i]? = some (some (d, 0)) := by
  have z := List.all_eq_true.mp h i hi
  cases q : env0[i]? with
  | none => rw [q] at e; cases e
  | some s =>
    cases s with
    | none => rw [q] at e; cases e
    | some p =>
      rw [q] at e z
      cases e
      have z : (k == 0) = true := z
      have z := beq_iff_eq.mp z
      subst z
      exact ⟨rfl, rfl⟩
/-- the turn's end: one's own names as they stood -/
theorem Rel.reset {own : List Nat} {env0 env3 : Ev} {σ2 : L2.St} {G0 H0 : Hp} {fs : Fo} (ok : ownOk own env0 = true) (R0 : Rel K G0 env0 σ H0 fs) (lG : Le G0 G) (R : Rel K G env3 σ2 H f) (hw : ∀ i, i ∉ own → σ2[i]? = σ[i]?) (hl : σ2.length = σ.length) :
    ∃ f', Rel K G (rst own env0 env3) σ H f' ∧ ∀ i a, a ∈ f' i → a ∈ f i := by
  refine ⟨fun i => if i ∈ own then [] else f i, ⟨by rw [rst_length, R.len, hl], fun i d k e => ?_, fun i => ?_, fun i j a h1 h2 => ?_, fun i a h => ?_, fun i a h => ?_, R.sub⟩, fun i a h => ?_⟩
  · rcases rst_get e with ⟨h1, h2⟩ | ⟨h1, h2⟩
    · rw [if_pos h1]
      obtain ⟨rfl, e0⟩ := ownOk_get ok h1 h2.symm
      obtain ⟨v, h3, h4⟩ := R0.slot i d 0 e0
      exact ⟨v, h3, h4.1.mono lG, rfl⟩
    · rw [if_neg h1]
      obtain ⟨v, h3, h4⟩ := R.slot i d k h2
      exact ⟨v, by rw [← hw i h1]; exact h3, h4⟩
  · split
    · exact .nil
    · exact R.nd i
  · split at h1
    · cases h1
    · split at h2
      · cases h2
      · exact R.dj i j a h1 h2
  · split at h
    · cases h
    · exact R.gn i a h
  · split at h
    · cases h
    · exact R.ht i a h
  · have h : a ∈ (if i ∈ own then [] else f i) := h
    split at h
    · cases h
    · exact h
end
end Pv
namespace Pv
open PySem PySem.Spec PyProof.Rows L2
section
variable {ρ : Nat → Fn} {c : Ctx} {X : Cx} {K : Fg} {W : WX} {G G1 G2 G' H H1 H2 H' : Hp} {f f0 f1 f2 : Fo} {σ : L2.St} {Q : VK} {env env1 : Ev} {bs bs1 bs2 : List Addr}
def STsv (X : Cx) (ifs : List Expr) : TT := fun σ H Q => ∀ (pins : List (Addr × Obj)) (s : Shared), Inv X pins σ H s →
  wpAny (model X.prog X.w) X.A (forIn ifs true fun c r => if r = true then do let ok ← isTrue c X.env (eval c X.env); pure (ForInStep.yield ok) else pure (ForInStep.yield r)) (TP X pins σ Q) X.xe s
theorem pts_sem {ifs : List Expr} : PTs X ifs (STsv X ifs) := ⟨fun pins s σ H Q I h => h pins s I⟩
def GoodOT (ρ : Nat → Fn) (c : Ctx) (X : Cx) (W : WX) (m : OE) (es : List Expr) : Prop :=
  ∀ (env : Ev) (σ : L2.St) (G H : Hp) (f : Fo), Rel X.K G env σ H f → ∀ Q, PostT X.K W σ f G H (evOT ρ m env) Q → STsv X es σ H Q
theorem goodOT_no : GoodOT ρ c X W .no [] := fun env σ G H f R Q q pins s I => pts_nil.run pins s σ H Q I (q G H f R Step.refl)
theorem goodOT_so {m : E} {e : Expr} (h : Good ρ c X W m e) : GoodOT ρ c X W (.so m) [e] := fun env σ G H f R Q q pins s I =>
  (pts_one pt_sem).run pins s σ H Q I ((h env σ G H f R).2 Q q)
def GoodI (ρ : Nat → Fn) (c : Ctx) (X : Cx) (W : WX) (m : I) (tg e : Expr) : Prop :=
  ∀ (env : Ev) (σ : L2.St) (G H : Hp) (f : Fo), Rel X.K G env σ H f → ∀ R, PostI X.K W σ f G H (evI ρ m env) R → SIv X tg e σ H R
theorem relabel_eq (scope : Scope) (cl : List (Str × Addr)) (C : Addr) (env : Env) : (compEnvC scope cl C env).scope = relS scope env.scope := rfl
theorem XC.blk (xc : XC ρ c X) (s : Shared) (H : Hp) (scope : Scope) (C : Addr) (cl : List (Str × Addr)) (fp : List Addr) : XC ρ (c.blk scope) (X.blk s H scope (compEnvC scope cl C X.env) fp) :=
  ⟨xc.n, xc.nd, by
    show relS scope X.env.scope = relS scope c.sc
    rw [xc.sc], rfl, xc.calm, xc.un, xc.blt, xc.gcs, xc.gts, fun j x n h => by
    obtain ⟨h1, h2⟩ := xc.fns j x n h
    exact ⟨h1, h2⟩⟩
theorem ownNames_ix : ∀ {own : List Nat} {on : List (Str × Nat)}, ownNames c own = some on → on.map (·.2) = own
  | [], _, h => by unfold ownNames at h; cases h; rfl
  | i :: r, on, h => by
    unfold ownNames at h
    split at h
    · obtain ⟨l, h1, rfl⟩ := Option.map_eq_some_iff.mp h
      exact congrArg (i :: ·) (ownNames_ix h1)
    · cases h
theorem PostE.bad_of {α : Type} {g : α → Ev → Res (D × Nat)} (h : PostE K W σ f G H ((Res.bad : Res α).bind g) Q) : False := h
def gB (X : Cx) (scope : Scope) (tg : Expr) : TG := fun v σ H Q => ∀ (s : Shared) (H0 : Hp) (C : Addr) (cl : List (Str × Addr)) (fp : List Addr), SGv (X.blk s H0 scope (compEnvC scope cl C X.env) fp) tg v σ H Q
def ttB (X : Cx) (scope : Scope) (ifs : List Expr) : TT := fun σ H Q => ∀ (s : Shared) (H0 : Hp) (C : Addr) (cl : List (Str × Addr)) (fp : List Addr), STsv (X.blk s H0 scope (compEnvC scope cl C X.env) fp) ifs σ H Q
def teB (X : Cx) (scope : Scope) (elt : Expr) : TE := fun σ H Q => ∀ (s : Shared) (H0 : Hp) (C : Addr) (cl : List (Str × Addr)) (fp : List Addr), SEv (X.blk s H0 scope (compEnvC scope cl C X.env) fp) elt σ H Q
theorem comp_core (xc : XC ρ c X) {n : Nat} {own : List Nat} {on : List (Str × Nat)} {t : T} {it : I} {k : OE} {m : E} {elt tg iter : Expr} {ifs : List Expr} {scope : Scope} (hon : ownNames c own = some on)
    (hix : ((tIdx t).all fun i => own.contains i) = true) (hi : GoodI ρ c X W it tg iter) (ht : chkT (c.blk scope) t tg = true)
    (hk : ∀ X', XC ρ (c.blk scope) X' → GoodOT ρ (c.blk scope) X' (fun _ _ _ _ => False) k ifs) (he : ∀ X', XC ρ (c.blk scope) X' → Good ρ (c.blk scope) X' (fun _ _ _ _ => False) m elt) {env : Ev} {σ : L2.St} {GS HS : Hp} {fS : Fo} (R : Rel X.K GS env σ HS fS) {Q : VK} (q : PostE X.K W σ fS GS HS ((evP ρ (.comp n own t it k m)).1 env) Q) :
    tLc (SIv X tg iter) (gB X scope tg) (ttB X scope ifs) (teB X scope elt) (on.map (·.2)) σ HS Q := by
  have q : PostE X.K W σ fS GS HS ((evI ρ it env).bind fun xs env1 => if ownOk own env1 = true then
      (cloop n own t env1 (evOT ρ k) (evP ρ m).1 xs env1).bind fun ys env2 => .ok (.lst ys, n + 1) env2 else .bad) Q := q
  refine hi env σ GS HS fS R _ (bndI (P := fun r => PostE X.K W σ fS GS HS r Q) q (fun _ _ h => h) id fun ds env1 J G1 H1 f1 R1 S1 IO hz q => ?_)
  intro D hD
  have hvs := ownNames_ix hon
  rw [hvs]
  by_cases hok : ownOk own env1 = true
  · rw [if_pos hok] at q
    refine ⟨fun i m0 H => m0 = ds.length - i ∧ i ≤ ds.length ∧ ∃ G env f ys bs, Rel X.K G env σ H f ∧ Tmp X.K G H f (n + 1) (.ref D) (.lst ys) bs ∧ ys.length ≤ i ∧ Step fS GS HS f bs G H ∧ Le G1 G ∧
      PostE X.K W σ fS GS HS ((cloop n own t env1 (evOT ρ k) (evP ρ m).1 (ds.drop i) env).bind fun zs env2 => .ok (.lst (ys ++ zs), n + 1) env2) Q, ⟨ds.length, by omega, Nat.zero_le _, G1, env1, f1, [], [D], ?_⟩, ?_⟩
    · have nw : New G1 H1 G1 (upd H1 D (.lst [])) [D] := New.upd R1.sub hD
      refine ⟨R1.new nw, Tmp.new R1 nw (.inr (.inl ⟨D, [], [], [], rfl, rfl, upd_same, .nil, rfl⟩)), Nat.le_refl _, S1.then (Step.new nw), .refl _, q⟩
    · rintro i m0 H ⟨rfl, hle, G, envi, f, ys, bs, Ri, Ti, hyl, Si, lG, q⟩
      by_cases hlt : i < ds.length
      · have hd : ds[i]? = some ds[i] := by simp [hlt]
        obtain ⟨go, item⟩ := IO.go i ds[i] G H hd lG Ri.sub
        refine .inr ⟨go, fun H' => ∃ G env f ys bs, Rel X.K G env σ H' f ∧ Tmp X.K G H' f (n + 1) (.ref D) (.lst ys) bs ∧ ys.length ≤ i + 1 ∧ Step fS GS HS f bs G H' ∧ Le G1 G ∧
          PostE X.K W σ fS GS HS ((cloop n own t env1 (evOT ρ k) (evP ρ m).1 (ds.drop (i + 1)) env).bind fun zs env2 => .ok (.lst (ys ++ zs), n + 1) env2) Q, fun H' h => ⟨ds.length - (i + 1), by omega, rfl, hlt, h⟩, fun x H2 hy => ?_⟩
        obtain ⟨G2, nw, rx⟩ := item x H2 hy
        have R2 := (Ri.new nw).wiped (own := own)
        obtain ⟨T2, _⟩ := Ti.step (Step.new nw)
        have S2 : Step fS GS HS f bs G2 H2 := (Si.trans (Step.new nw)).lessB fun a h => List.mem_append_left _ h
        rw [List.drop_eq_getElem_cons hlt] at q
        have q : PostE X.K W σ fS GS HS ((match bindT t ds[i] 0 (wipeE own envi) with
          | none => (Res.bad : Res (List Pv.D))
          | some env1' => match evOT ρ k env1' with
            | .ok true env2 => (match (evP ρ m).1 env2 with
              | .ok p env3 => if okd n p = true then (cloop n own t env1 (evOT ρ k) (evP ρ m).1 (ds.drop (i + 1)) (rst own env1 env3)).bind fun ys env4 => .ok (p.1 :: ys) env4 else .bad
              | _ => .bad)
            | .ok false env2 => cloop n own t env1 (evOT ρ k) (evP ρ m).1 (ds.drop (i + 1)) (rst own env1 env2)
            | _ => .bad).bind fun zs env2 => .ok (.lst (ys ++ zs), n + 1) env2) Q := q
        cases hbt : bindT t ds[i] 0 (wipeE own envi) with
        | none => rw [hbt] at q; exact (PostE.bad_of q).elim
        | some envt =>
          rw [hbt] at q
          have q : PostE X.K W σ fS GS HS ((match evOT ρ k envt with
            | .ok true env2 => (match (evP ρ m).1 env2 with
              | .ok p env3 => if okd n p = true then (cloop n own t env1 (evOT ρ k) (evP ρ m).1 (ds.drop (i + 1)) (rst own env1 env3)).bind fun ys env4 => .ok (p.1 :: ys) env4 else .bad
              | _ => .bad)
            | .ok false env2 => cloop n own t env1 (evOT ρ k) (evP ρ m).1 (ds.drop (i + 1)) (rst own env1 env2)
            | _ => .bad).bind fun zs env2 => .ok (.lst (ys ++ zs), n + 1) env2) Q := q
          intro s0 Hb C cl fp
          refine good_T (xc.blk s0 Hb scope C cl fp) ht R2 rfl (Tmp.of_rep rx) hbt fun σ' f' R3 hf3 sm => ?_
          have hix' : ∀ j ∈ tIdx t, j ∈ own := fun j hj => by
            have := List.all_eq_true.mp hix j hj
            simpa using this
          refine ⟨wipe_eq sm hix', fun s0 Hb C cl fp => ?_⟩
          have hw : ∀ j, j ∉ own → σ'[j]? = σ[j]? := fun j hj => by
            rw [sm.2 j fun z => hj (hix' j z), wipe_get hj]
          have hl : σ'.length = σ.length := by rw [sm.1, wipe_length]
          have T3 : Tmp X.K G2 H2 f' (n + 1) (.ref D) (.lst ys) bs := ⟨T2.own, T2.nd, T2.gn, fun a ha j hj => by
            rcases hf3 j a hj with ⟨j', z⟩ | z
            · exact T2.ap a ha j' z
            · cases z⟩
          have S3 : Step fS GS HS f' bs G2 H2 := ⟨S2.keep, S2.grow, fun j a hj => (hf3 j a hj).elim (fun ⟨j', z⟩ => S2.newA j' a z) (fun z => nomatch z), S2.newB, S2.newG, S2.there⟩
          refine hk _ (xc.blk s0 Hb scope C cl fp) envt σ' G2 H2 f' R3 _ ?_
          generalize hkt : evOT ρ k envt = rk at q
          cases rk with
          | bad => exact q.elim
          | exc x e' => exact q.elim
          | ok b env2 =>
            intro G3 H3 f3 R4 S4
            have T4 := (T3.step S4).1
            have S5 : Step fS GS HS f3 bs G3 H3 := (S3.trans S4).lessB fun a h => List.mem_append_left _ h
            cases b with
            | false =>
              rw [if_neg Bool.false_ne_true]
              have q : PostE X.K W σ fS GS HS ((cloop n own t env1 (evOT ρ k) (evP ρ m).1 (ds.drop (i + 1)) (rst own env1 env2)).bind fun zs env2 => .ok (.lst (ys ++ zs), n + 1) env2) Q := q
              obtain ⟨f4, R5, hf⟩ := Rel.reset hok R1 (lG.trans (nw.grow.trans S4.grow)) R4 hw hl
              exact ⟨G3, _, f4, ys, bs, R5, ⟨T4.own, T4.nd, T4.gn, fun a ha j hj => T4.ap a ha j (hf j a hj)⟩, by omega, ⟨S5.keep, S5.grow, fun j a hj => S5.newA j a (hf j a hj), S5.newB, S5.newG, S5.there⟩, lG.trans (nw.grow.trans S4.grow), q⟩
            | true =>
              rw [if_pos rfl]
              intro s0 Hb C cl fp
              refine (he _ (xc.blk s0 Hb scope C cl fp) env2 σ' G3 H3 f3 R4).1 _ ?_
              have q : PostE X.K W σ fS GS HS ((match (evP ρ m).1 env2 with
                | .ok p env3 => if okd n p = true then (cloop n own t env1 (evOT ρ k) (evP ρ m).1 (ds.drop (i + 1)) (rst own env1 env3)).bind fun ys env4 => .ok (p.1 :: ys) env4 else .bad
                | _ => .bad).bind fun zs env2 => .ok (.lst (ys ++ zs), n + 1) env2) Q := q
              cases hev : (evP ρ m).1 env2 with
              | bad => rw [hev] at q; exact q.elim
              | exc x e' => rw [hev] at q; exact q.elim
              | ok pr env3 =>
                rw [hev] at q
                intro y G4 H4 f4 bsy R5 T5 S6
                obtain ⟨d, kd⟩ := pr
                have q : PostE X.K W σ fS GS HS ((if okd n (d, kd) = true then (cloop n own t env1 (evOT ρ k) (evP ρ m).1 (ds.drop (i + 1)) (rst own env1 env3)).bind fun ys env4 => .ok (d :: ys) env4 else .bad).bind fun zs env2 => .ok (.lst (ys ++ zs), n + 1) env2) Q := q
                by_cases hod : okd n (d, kd) = true
                · rw [if_pos hod] at q
                  obtain ⟨T6, dj⟩ := T4.step S6
                  have S7 : Step fS GS HS f4 (bs ++ bsy) G4 H4 := S5.trans S6
                  obtain ⟨acc, G5, bs5, ha, hal, l5, R7, T7, S8⟩ := own_app R5 T6 T5 dj hod S7
                  refine ⟨acc, ha, by rw [hal, sizeLine_eq]; have : ds.length ≤ 16777216 := hz; show ys.length < 16777216; omega, ?_⟩
                  have l6 : Le G1 G5 := (lG.trans (nw.grow.trans S4.grow)).trans (S6.grow.trans l5)
                  obtain ⟨f5, R8, hf⟩ := Rel.reset hok R1 l6 R7 hw hl
                  refine ⟨G5, _, f5, ys ++ [d], bs5, R8, ⟨T7.own, T7.nd, T7.gn, fun a ha j hj => T7.ap a ha j (hf j a hj)⟩, by simp; omega, ⟨S8.keep, S8.grow, fun j a hj => S8.newA j a (hf j a hj), S8.newB, S8.newG, S8.there⟩, l6, ?_⟩
                  have e1 : ∀ r : Res (List Pv.D), ((r.bind fun ys env4 => .ok (d :: ys) env4).bind fun zs env2 => (.ok (.lst (ys ++ zs), n + 1) env2 : Res (Pv.D × Nat))) = r.bind fun zs env2 => .ok (.lst ((ys ++ [d]) ++ zs), n + 1) env2 := fun r => by
                    cases r with
                    | ok a e => show Res.ok (Pv.D.lst (ys ++ (d :: a)), n + 1) e = Res.ok (Pv.D.lst ((ys ++ [d]) ++ a), n + 1) e; rw [List.append_assoc]; rfl
                    | exc _ _ => rfl
                    | bad => rfl
                  rw [e1] at q
                  exact q
                · rw [if_neg hod] at q; exact q.elim
      · have e : i = ds.length := by omega
        subst e
        refine .inl ⟨IO.stop _ G H (Nat.le_refl _) lG Ri.sub, ?_⟩
        rw [List.drop_length] at q
        have q : PostE X.K W σ fS GS HS (.ok (.lst (ys ++ []), n + 1) envi) Q := q
        rw [List.append_nil] at q
        exact q (.ref D) G H f bs Ri Ti Si
  · rw [if_neg hok] at q; exact q.elim
theorem good_comp (xc : XC ρ c X) {n : Nat} {own : List Nat} {on : List (Str × Nat)} {t : T} {it : I} {k : OE} {m : E} {elt tg iter : Expr} {ifs : List Expr} {scope : Scope} {p : Pos} (hon : ownNames c own = some on) (hb : blkC c.N c.sc scope on = true)
    (hix : ((tIdx t).all fun i => own.contains i) = true) (hfo : foldOk iter = true) (hi : GoodI ρ c X W it tg iter) (ht : chkT (c.blk scope) t tg = true)
    (hk : ∀ X', XC ρ (c.blk scope) X' → GoodOT ρ (c.blk scope) X' (fun _ _ _ _ => False) k ifs) (he : ∀ X', XC ρ (c.blk scope) X' → Good ρ (c.blk scope) X' (fun _ _ _ _ => False) m elt) : Good ρ c X W (.comp n own t it k m) (.ListComp elt [⟨tg, iter, ifs, 0⟩] scope p) := by
  refine good_dft rfl rfl fun env σ GS HS fS R Q q => ?_
  have ok : BlkOk X.N X.env.scope scope on := by rw [xc.n, xc.sc]; exact blkOk_by hb
  have hs : ∀ x, foldedSetIterable iter X.env x = pure x := fun x => by
    cases iter <;> first | rfl | cases hfo
  exact SEv.of (pe_lc (wi := SIv X tg iter) (g := gB X scope tg) (tt := ttB X scope ifs) (te := teB X scope elt)
    xc.calm xc.nd pi_sem ok (fun s H C cl fp => ⟨fun pins s' σ H' v u Q I r h => h s H C cl fp pins s' u I r⟩) (fun s H C cl fp => ⟨fun pins s' σ H' Q I h => h s H C cl fp pins s' I⟩)
    (fun s H C cl fp => ⟨fun pins s' σ H' Q I h => h s H C cl fp pins s' I⟩) hs) (comp_core xc hon hix hi ht hk he R q)
end
end Pv
namespace Pv
open PySem PySem.Spec PyProof.Rows L2
section
variable {ρ : Nat → Fn} {c : Ctx} {X : Cx} {K : Fg} {W : WX} {G G1 G2 G' H H1 H2 H' : Hp} {f f0 f1 f2 : Fo} {σ : L2.St} {Q : VK} {env env1 : Ev} {bs bs1 bs2 : List Addr} {tg : Expr}
/-! ### what is walked -/
def Sz (H : Hp) : Prop := (∀ a xs, Rd H a (.lst xs) → xs.length ≤ sizeLine) ∧ ∀ a xs, H a = some (.tup xs) → xs.length ≤ sizeLine
theorem inv_sz {pins : List (Addr × Obj)} {s : Shared} (I : Inv X pins σ H s) : Sz H := by
  refine ⟨fun a xs h => (Inv.lstR I h).1, fun a xs h => ?_⟩
  obtain ⟨its, r, ht, hz⟩ := I.tuple (show SqT X.K H a xs from .inl (.inl h))
  exact hz
theorem SEv.sz {e : Expr} (h : SEv X e σ H (fun v H' => Sz H' → Q v H')) : SEv X e σ H Q := fun pins s I => thn (h pins s I) fun u s1 ⟨v, H1, I1, r, q⟩ => ⟨v, H1, I1, r, q (inv_sz I1)⟩
theorem SL.sz : ∀ {es : List Expr} {Q : List V → Hp → Prop} {H : Hp}, SL X es σ H (fun v H' => Sz H' → Q v H') → es ≠ [] → SL X es σ H Q
  | [], _, _, _, h => (h rfl).elim
  | [e], Q, H, h, _ => by
    have h : SEv X e σ H fun v H' => Sz H' → Q [v] H' := h
    exact SEv.sz h
  | e :: e2 :: r, Q, H, h, _ => by
    have h : SEv X e σ H fun v H' => SL X (e2 :: r) σ H' fun vs H' => Sz H' → Q (v :: vs) H' := h
    exact SEv.mono h fun v H1 h1 => SL.sz h1 (fun z => nomatch z)
theorem it_list {a : Addr} {xs : List V} {ds : List D} (e : Rd G a (.lst xs)) (r : RepL K G xs ds) : ItOk K (Itl K a) ds G := by
  refine ⟨fun i d G1 H1 hd lG sb => ?_, fun i G1 H1 hi lG sb => ⟨xs, .inl (sb.rd (lG.rd e)), by rw [r.length]; exact hi⟩⟩
  obtain ⟨v, hv, rv⟩ := r.get hd
  refine ⟨⟨xs, v, .inl (sb.rd (lG.rd e)), hv⟩, fun x H2 ⟨e2, hx⟩ => ?_⟩
  subst e2
  have := hx xs (.inl (sb.rd (lG.rd e)))
  rw [hv] at this
  cases this
  exact ⟨G1, New.refl sb, rv.mono lG⟩
theorem it_tup {a : Addr} {xs : List V} {ds : List D} (e : ∀ G1 H1, Le G G1 → Sub G1 H1 → SqT K H1 a xs) (r : RepL K G xs ds) : ItOk K (Itt K a) ds G := by
  refine ⟨fun i d G1 H1 hd lG sb => ?_, fun i G1 H1 hi lG sb => ⟨xs, e G1 H1 lG sb, by rw [r.length]; exact hi⟩⟩
  obtain ⟨v, hv, rv⟩ := r.get hd
  refine ⟨⟨xs, v, e G1 H1 lG sb, hv⟩, fun x H2 ⟨e2, hx⟩ => ?_⟩
  subst e2
  have := hx xs (e G1 H2 lG sb)
  rw [hv] at this
  cases this
  exact ⟨G1, New.refl sb, rv.mono lG⟩
theorem it_str {s : List Nat} : ItOk K (Its (sv s)) (s.map fun c => D.str [c]) G := by
  refine ⟨fun i d G1 H1 hd lG sb => ?_, fun i G1 H1 hi lG sb => ?_⟩
  · rw [List.getElem?_map] at hd
    obtain ⟨c, hc, rfl⟩ := Option.map_eq_some_iff.mp hd
    refine ⟨?_, fun x H2 ⟨e2, c', hc', ex⟩ => ?_⟩
    · show i < (sv s).cps.size
      have := (List.getElem?_eq_some_iff.mp hc).1
      simpa using this
    · subst e2 ex
      have : s[i]? = some c' := by simpa using hc'
      rw [hc] at this
      cases this
      exact ⟨G1, New.refl sb, .str [c]⟩
  · show (sv s).cps.size ≤ i
    simpa using hi
theorem rangeL_get {lo k : Int} {n i : Nat} {d : D} (h : (rangeL lo k n)[i]? = some d) : i < n ∧ d = .int (lo + (i : Int) * k) := by
  unfold rangeL at h
  rw [List.getElem?_map] at h
  obtain ⟨j, hj, rfl⟩ := Option.map_eq_some_iff.mp h
  obtain ⟨h1, h2⟩ := List.getElem?_eq_some_iff.mp hj
  rw [List.getElem_range] at h2
  subst h2
  exact ⟨by simpa using h1, rfl⟩
theorem rangeL_len {lo k : Int} {n : Nat} : (rangeL lo k n).length = n := by unfold rangeL; simp
theorem it_range {lo : Int} {n : Nat} : ItOk K (Itr lo n) (rangeL lo 1 n) G := by
  refine ⟨fun i d G1 H1 hd lG sb => ?_, fun i G1 H1 hi lG sb => by rw [rangeL_len] at hi; exact hi⟩
  obtain ⟨h1, rfl⟩ := rangeL_get hd
  refine ⟨h1, fun x H2 ⟨e2, ex⟩ => ?_⟩
  subst e2 ex
  refine ⟨G1, New.refl sb, ?_⟩
  rw [Int.mul_one]
  exact .int _
theorem it_rangeC {lo k : Int} {n : Nat} : ItOk K (Itc lo k n) (rangeL lo k n) G := by
  refine ⟨fun i d G1 H1 hd lG sb => ?_, fun i G1 H1 hi lG sb => by rw [rangeL_len] at hi; exact hi⟩
  obtain ⟨h1, rfl⟩ := rangeL_get hd
  refine ⟨h1, fun x H2 ⟨e2, ex⟩ => ?_⟩
  subst e2 ex
  exact ⟨G1, New.refl sb, .int _⟩
/-- a tuple that the iterator lays -/
theorem new_tup {T : Addr} {xs : List V} {ds : List D} (sb : Sub G H) (hT : H T = none) (r : RepL K G xs ds) : ∃ G2, New G H G2 (upd H T (.tup xs)) [] ∧ Rep K G2 (.ref T) (.tup ds) := by
  have nw : New G H G (upd H T (.tup xs)) [T] := New.upd sb hT
  exact ⟨_, nw.frozen, .tup (by rw [addG_in List.mem_cons_self]; exact upd_same) (r.mono (.addG nw.gB))⟩
theorem it_enum {a : Addr} {xs : List V} {ds : List D} (e : Rd G a (.lst xs)) (r : RepL K G xs ds) : ItOk K (Ite K a) (ds.zipIdx.map fun q => D.tup [.int q.2, q.1]) G := by
  refine ⟨fun i d G1 H1 hd lG sb => ?_, fun i G1 H1 hi lG sb => ⟨xs, .inl (sb.rd (lG.rd e)), by rw [r.length]; simpa using hi⟩⟩
  rw [List.getElem?_map] at hd
  obtain ⟨q, hq, rfl⟩ := Option.map_eq_some_iff.mp hd
  rw [List.getElem?_zipIdx] at hq
  obtain ⟨d', hd', rfl⟩ := Option.map_eq_some_iff.mp hq
  obtain ⟨v, hv, rv⟩ := r.get hd'
  refine ⟨⟨xs, v, .inl (sb.rd (lG.rd e)), hv⟩, fun x H2 ⟨T, x', ex, hT, e2, hx⟩ => ?_⟩
  have := hx xs (.inl (sb.rd (lG.rd e)))
  rw [hv] at this
  cases this
  subst ex e2
  refine new_tup sb hT (.cons ?_ (.cons (rv.mono lG) .nil))
  rw [Nat.zero_add]
  exact .int _
theorem it_zip {a b : Addr} {xs ys : List V} {ds es : List D} (e : Rd G a (.lst xs)) (r : RepL K G xs ds) (e' : Rd G b (.lst ys)) (r' : RepL K G ys es) : ItOk K (Itz K a b) ((ds.zip es).map fun q => D.tup [q.1, q.2]) G := by
  refine ⟨fun i d G1 H1 hd lG sb => ?_, fun i G1 H1 hi lG sb => ⟨xs, ys, .inl (sb.rd (lG.rd e)), .inl (sb.rd (lG.rd e')), ?_⟩⟩
  · rw [List.getElem?_map] at hd
    obtain ⟨q, hq, rfl⟩ := Option.map_eq_some_iff.mp hd
    rw [List.getElem?_zip_eq_some] at hq
    obtain ⟨v, hv, rv⟩ := r.get hq.1
    obtain ⟨u, hu, ru⟩ := r'.get hq.2
    refine ⟨⟨xs, ys, v, u, .inl (sb.rd (lG.rd e)), .inl (sb.rd (lG.rd e')), hv, hu⟩, fun x H2 ⟨T, x', y', ex, hT, e2, hx, hy⟩ => ?_⟩
    have := hx xs (.inl (sb.rd (lG.rd e)))
    rw [hv] at this
    cases this
    have := hy ys (.inl (sb.rd (lG.rd e')))
    rw [hu] at this
    cases this
    subst ex e2
    exact new_tup sb hT (.cons (rv.mono lG) (.cons (ru.mono lG) .nil))
  · rw [r.length, r'.length]
    simp only [List.length_map, List.length_zip] at hi
    omega
theorem it_zipT {a b : Addr} {xs ys : List V} {ds es : List D} (e : G a = some (.tup xs)) (r : RepL K G xs ds) (e' : G b = some (.tup ys)) (r' : RepL K G ys es) : ItOk K (RZ.ItzT K a b) ((ds.zip es).map fun q => D.tup [q.1, q.2]) G := by
  refine ⟨fun i d G1 H1 hd lG sb => ?_, fun i G1 H1 hi lG sb => ⟨xs, ys, .inl (.inl (sb.tup (lG _ _ e))), .inl (.inl (sb.tup (lG _ _ e'))), ?_⟩⟩
  · rw [List.getElem?_map] at hd
    obtain ⟨q, hq, rfl⟩ := Option.map_eq_some_iff.mp hd
    rw [List.getElem?_zip_eq_some] at hq
    obtain ⟨v, hv, rv⟩ := r.get hq.1
    obtain ⟨u, hu, ru⟩ := r'.get hq.2
    refine ⟨⟨xs, ys, v, u, .inl (.inl (sb.tup (lG _ _ e))), .inl (.inl (sb.tup (lG _ _ e'))), hv, hu⟩, fun x H2 ⟨T, x', y', ex, hT, e2, hx, hy⟩ => ?_⟩
    have := hx xs (.inl (.inl (sb.tup (lG _ _ e))))
    rw [hv] at this
    cases this
    have := hy ys (.inl (.inl (sb.tup (lG _ _ e'))))
    rw [hu] at this
    cases this
    subst ex e2
    exact new_tup sb hT (.cons (rv.mono lG) (.cons (ru.mono lG) .nil))
  · rw [r.length, r'.length]
    simp only [List.length_map, List.length_zip] at hi
    omega
theorem se_one {x : Expr} {l : List Expr} (h : notStar x = true) : starEach (x :: l) X.env = (false, eval x X.env) :: starEach l X.env := by
  cases x <;> first | rfl | cases h
theorem goodI_ex {m : E} {e : Expr} (h : Good ρ c X W m e) : GoodI ρ c X W (.ex m) tg e := by
  intro env σ G H f R RR q
  have q : PostI X.K W σ f G H (((evP ρ m).1 env).bind fun p env1 => match p.1 with
    | .lst ds => .ok ds env1
    | .tup ds => .ok ds env1
    | .str s => if s.length ≤ big then .ok (s.map fun c => D.str [c]) env1 else .bad
    | _ => .bad) RR := q
  -- by the value's kind
  cases hr : (evP ρ m).1 env with
  | bad => rw [hr] at q; exact q.elim
  | exc x e' =>
    refine SIv.of (pi_list pe_sem) ((h env σ G H f R).1 _ ?_)
    rw [hr] at q ⊢
    exact q
  | ok p env1 =>
    obtain ⟨d, k⟩ := p
    have q0 := q
    rw [hr] at q0
    cases d with
    | lst ds =>
      refine SIv.of (pi_list pe_sem) (SEv.sz ((h env σ G H f R).1 _ ?_))
      rw [hr]
      intro v G1 H1 f1 bs1 R1 T1 S1 sz
      have q0 : PostI X.K W σ f G H (.ok ds env1) RR := q0
      have R2 := R1.freeze T1.gn T1.ap
      have rr := T1.rep
      cases rr with
      | lst e r =>
        refine ⟨_, rfl, ⟨_, .inl (R2.sub.rd e)⟩, q0 _ _ _ _ R2 (S1.freeze T1.gn S1.newB).nil (it_list e r) ?_⟩
        rw [← r.length, ← big_eq]
        exact sz.1 _ _ (R2.sub.rd e)
    | tup ds =>
      refine SIv.of (pi_tup pe_sem) (SEv.sz ((h env σ G H f R).1 _ ?_))
      rw [hr]
      intro v G1 H1 f1 bs1 R1 T1 S1 sz
      have q0 : PostI X.K W σ f G H (.ok ds env1) RR := q0
      have R2 := R1.freeze T1.gn T1.ap
      have rr := T1.rep
      cases rr with
      | tup e r =>
        refine ⟨_, rfl, ⟨_, .inl (.inl (R2.sub.tup e))⟩, q0 _ _ _ _ R2 (S1.freeze T1.gn S1.newB).nil (it_tup (fun G2 H2 l sb => .inl (.inl (sb.tup (l _ _ e)))) r) ?_⟩
        rw [← r.length, ← big_eq]
        exact sz.2 _ _ (R2.sub.tup e)
    | str s =>
      refine SIv.of (pi_str pe_sem) ((h env σ G H f R).1 _ ?_)
      rw [hr]
      intro v G1 H1 f1 bs1 R1 T1 S1
      have q0 : PostI X.K W σ f G H (if s.length ≤ big then .ok (s.map fun c => D.str [c]) env1 else .bad) RR := q0
      obtain ⟨r, e⟩ := T1.own.flat (G' := G1) rfl
      cases r
      by_cases hz : s.length ≤ big
      · rw [if_pos hz] at q0
        exact ⟨_, rfl, q0 _ _ _ _ R1 S1.nil it_str (by rw [List.length_map]; exact hz)⟩
      · rw [if_neg hz] at q0; exact q0.elim
    | _ => exact q0.elim
theorem int_val {v : V} {d : D} {k : Nat} (T : Tmp K G H f k v d bs) {i : Int} (h : d = .int i) : v = .int i ∧ bs = [] := by
  subst h
  obtain ⟨r, e⟩ := T.own.flat (G' := G) rfl
  cases r
  exact ⟨rfl, e⟩
theorem goodI_rng1 (xc : XC ρ c X) {m : E} {x : Expr} {p pos : Pos} (hb : bltB c "range" = true) (n1 : notStar x = true) (h : Good ρ c X W m x) : GoodI ρ c X W (.rng1 m) tg (.Call (.Name "range" p) [x] [] pos) := by
  intro env σ G H f R RR q
  obtain ⟨g, m0⟩ := xc.bl hb
  refine SIv.of (pi_range1 g m0 (pa_cons pe_sem pa_nil (se_one n1)) (se_one n1)) ?_
  refine (h env σ G H f R).1 _ (bndE (P := fun r => PostI X.K W σ f G H r RR) q (fun _ _ h => h) id fun p env1 v G1 H1 f1 bs1 R1 T1 S1 q => ?_)
  obtain ⟨d, k⟩ := p
  cases d with
  | int j =>
    have q : PostI X.K W σ f G H (if -(2 ^ 62) ≤ j ∧ j.toNat ≤ big then .ok (rangeL 0 1 j.toNat) env1 else .bad) RR := q
    split at q
    · rename_i hz
      obtain ⟨rfl, _⟩ := int_val T1 rfl
      exact ⟨j, rfl, hz.1, by have : j.toNat ≤ 16777216 := hz.2; omega, q _ _ _ _ R1 S1.nil it_range (by rw [rangeL_len]; exact hz.2)⟩
    · exact q.elim
  | _ => exact q.elim
theorem goodI_rng2 (xc : XC ρ c X) {m m2 : E} {x y : Expr} {p pos : Pos} (hb : bltB c "range" = true) (n1 : notStar x = true) (n2 : notStar y = true) (h : Good ρ c X W m x) (h2 : Good ρ c X W m2 y) : GoodI ρ c X W (.rng2 m m2) tg (.Call (.Name "range" p) [x, y] [] pos) := by
  intro env σ G H f R RR q
  obtain ⟨g, m0⟩ := xc.bl hb
  refine SIv.of (pi_range2 g m0 (pa_cons pe_sem (pa_cons pe_sem pa_nil (se_one n2)) (se_one n1)) (by rw [se_one n1, se_one n2]; rfl) (se_one n2)) ?_
  refine (h env σ G H f R).1 _ (bndE (P := fun r => PostI X.K W σ f G H r RR) q (fun _ _ h => h) id fun p env1 v G1 H1 f1 bs1 R1 T1 S1 q => ?_)
  refine (h2 env1 σ G1 H1 f1 R1).1 _ (bndE (P := fun r => PostI X.K W σ f G H r RR) q (fun _ _ h => ExcP.step h S1) id fun p2 env2 u G2 H2 f2 bs2 R2 T2 S2 q => ?_)
  obtain ⟨d, k⟩ := p
  obtain ⟨d2, k2⟩ := p2
  cases d with
  | int i => cases d2 with
    | int j =>
      have q : PostI X.K W σ f G H (if -(2 ^ 62) ≤ i ∧ i < 2 ^ 62 ∧ -(2 ^ 62) ≤ j ∧ j < 2 ^ 62 ∧ (j - i).toNat ≤ big then .ok (rangeL i 1 (j - i).toNat) env2 else .bad) RR := q
      split at q
      · rename_i hz
        obtain ⟨rfl, _⟩ := int_val T1 rfl
        obtain ⟨rfl, _⟩ := int_val T2 rfl
        exact ⟨i, j, rfl, ⟨hz.1, hz.2.1, hz.2.2.1, hz.2.2.2.1⟩, q _ _ _ _ R2 (S1.trans S2).nil it_range (by rw [rangeL_len]; exact hz.2.2.2.2)⟩
      · exact q.elim
    | _ => exact q.elim
  | _ => exact q.elim
theorem goodI_rng3 (xc : XC ρ c X) {m m2 m3 : E} {x y z : Expr} {p pos : Pos} (hb : bltB c "range" = true) (n1 : notStar x = true) (n2 : notStar y = true) (n3 : notStar z = true) (h : Good ρ c X W m x) (h2 : Good ρ c X W m2 y) (h3 : Good ρ c X W m3 z) :
    GoodI ρ c X W (.rng3 m m2 m3) tg (.Call (.Name "range" p) [x, y, z] [] pos) := by
  intro env σ G H f R RR q
  obtain ⟨g, m0⟩ := xc.bl hb
  refine SIv.of (pi_range3 g m0 (pa_cons pe_sem (pa_cons pe_sem (pa_cons pe_sem pa_nil (se_one n3)) (se_one n2)) (se_one n1)) (se_one n1) (by rw [se_one n2, se_one n3]; rfl)) ?_
  refine (h env σ G H f R).1 _ (bndE (P := fun r => PostI X.K W σ f G H r RR) q (fun _ _ h => h) id fun p env1 v G1 H1 f1 bs1 R1 T1 S1 q => ?_)
  refine (h2 env1 σ G1 H1 f1 R1).1 _ (bndE (P := fun r => PostI X.K W σ f G H r RR) q (fun _ _ h => ExcP.step h S1) id fun p2 env2 u G2 H2 f2 bs2 R2 T2 S2 q => ?_)
  refine (h3 env2 σ G2 H2 f2 R2).1 _ (bndE (P := fun r => PostI X.K W σ f G H r RR) q (fun _ _ h => ExcP.step h (S1.trans S2)) id fun p3 env3 w G3 H3 f3 bs3 R3 T3 S3 q => ?_)
  obtain ⟨d, k⟩ := p
  obtain ⟨d2, k2⟩ := p2
  obtain ⟨d3, k3⟩ := p3
  cases d with
  | int i => cases d2 with
    | int j => cases d3 with
      | int s =>
        have q : PostI X.K W σ f G H (if s ≠ 0 ∧ s.natAbs < 1073741824 ∧ Builtin.Range.small i j s = true ∧ (Builtin.Range.rangeSize i j s).toNat ≤ big then .ok (rangeL i s (Builtin.Range.rangeSize i j s).toNat) env3 else .bad) RR := q
        split at q
        · rename_i hz
          obtain ⟨h1, h2, h3, h4⟩ := hz
          obtain ⟨rfl, _⟩ := int_val T1 rfl
          obtain ⟨rfl, _⟩ := int_val T2 rfl
          obtain ⟨rfl, _⟩ := int_val T3 rfl
          exact ⟨i, j, s, _, rfl, ⟨h1, h2, h3, rangeSize_toNat i j s⟩, q _ _ _ _ R3 ((S1.trans S2).trans S3).nil it_rangeC (by rw [rangeL_len]; exact h4)⟩
        · exact q.elim
      | _ => exact q.elim
    | _ => exact q.elim
  | _ => exact q.elim
theorem goodI_enum (xc : XC ρ c X) {m : E} {x : Expr} {p pos : Pos} {elts : List Expr} {kk : Nat} {tpos : Pos} (hb : bltB c "enumerate" = true) (n1 : notStar x = true) (h : Good ρ c X W m x) : GoodI ρ c X W (.enum m) (.Tuple elts kk tpos) (.Call (.Name "enumerate" p) [x] [] pos) := by
  intro env σ G H f R RR q
  obtain ⟨g, m0⟩ := xc.bl hb
  refine SIv.of (pi_enum g m0 (pa_cons pe_sem pa_nil (se_one n1)) (se_one n1)) ?_
  refine SEv.sz ((h env σ G H f R).1 _ (bndE (P := fun r => PostI X.K W σ f G H r RR) q (fun _ _ h => h) id fun p env1 v G1 H1 f1 bs1 R1 T1 S1 q sz => ?_))
  obtain ⟨d, k⟩ := p
  cases d with
  | lst ds =>
    have q : PostI X.K W σ f G H (.ok (ds.zipIdx.map fun q => D.tup [.int q.2, q.1]) env1) RR := q
    have R2 := R1.freeze T1.gn T1.ap
    have rr := T1.rep
    cases rr with
    | lst e r =>
      refine ⟨_, _, rfl, .inl (R2.sub.rd e), q _ _ _ _ R2 (S1.freeze T1.gn S1.newB).nil (it_enum e r) ?_⟩
      simp only [List.length_map, List.length_zipIdx]
      rw [← r.length, ← big_eq]
      exact sz.1 _ _ (R2.sub.rd e)
  | _ => exact q.elim
theorem goodI_zip (xc : XC ρ c X) {m m2 : E} {x y : Expr} {p pos : Pos} {elts : List Expr} {kk : Nat} {tpos : Pos} (hb : bltB c "zip" = true) (n1 : notStar x = true) (n2 : notStar y = true) (h : Good ρ c X W m x) (h2 : Good ρ c X W m2 y) :
    GoodI ρ c X W (.zip m m2) (.Tuple elts kk tpos) (.Call (.Name "zip" p) [x, y] [] pos) := by
  intro env σ G H f R RR q
  obtain ⟨g, m0⟩ := xc.bl hb
  refine SIv.of (RZ.pi_zipA g m0 (pa_cons pe_sem (pa_cons pe_sem pa_nil (se_one n2)) (se_one n1)) (se_one n1) (by rw [se_one n2]; rfl)) ?_
  refine (h env σ G H f R).1 _ (bndE (P := fun r => PostI X.K W σ f G H r RR) q (fun _ _ h => h) id fun p env1 v G1 H1 f1 bs1 R1 T1 S1 q => ?_)
  refine SEv.sz ((h2 env1 σ G1 H1 f1 R1).1 _ (bndE (P := fun r => PostI X.K W σ f G H r RR) q (fun _ _ h => ExcP.step h S1) id fun p2 env2 u G2 H2 f2 bs2 R2 T2 S2 q sz => ?_))
  obtain ⟨d, k⟩ := p
  obtain ⟨d2, k2⟩ := p2
  cases d with
  | lst ds => cases d2 with
    | lst es =>
      have q : PostI X.K W σ f G H (.ok ((ds.zip es).map fun q => D.tup [q.1, q.2]) env2) RR := q
      obtain ⟨T1', dj⟩ := T1.step S2
      have TL := TmpL.cons T1' T2.list dj
      have R3 := R2.freeze TL.gn TL.ap
      have rr : RepL X.K (addG G2 H2 (bs1 ++ bs2)) [v, u] [.lst ds, .lst es] := TL.rep
      cases rr with
      | cons ra rr => cases rr with
        | cons rb _ =>
          cases ra with
          | lst e r => cases rb with
            | lst e' r' =>
              refine ⟨_, _, _, _, rfl, .inl ⟨.inl (R3.sub.rd e), .inl (R3.sub.rd e'), q _ _ _ _ R3 ((S1.trans S2).freeze TL.gn (S1.trans S2).newB).nil (it_zip e r e' r') ?_⟩⟩
              simp only [List.length_map, List.length_zip]
              rw [← r.length]
              refine Nat.le_trans (Nat.min_le_left _ _) ?_
              rw [← big_eq]
              exact sz.1 _ _ (R3.sub.rd e)
    | _ => exact q.elim
  | tup ds => cases d2 with
    | tup es =>
      have q : PostI X.K W σ f G H (.ok ((ds.zip es).map fun q => D.tup [q.1, q.2]) env2) RR := q
      obtain ⟨T1', dj⟩ := T1.step S2
      have TL := TmpL.cons T1' T2.list dj
      have R3 := R2.freeze TL.gn TL.ap
      have rr : RepL X.K (addG G2 H2 (bs1 ++ bs2)) [v, u] [.tup ds, .tup es] := TL.rep
      cases rr with
      | cons ra rr => cases rr with
        | cons rb _ =>
          cases ra with
          | tup e r => cases rb with
            | tup e' r' =>
              refine ⟨_, _, _, _, rfl, .inr ⟨.inl (.inl (R3.sub.tup e)), .inl (.inl (R3.sub.tup e')), q _ _ _ _ R3 ((S1.trans S2).freeze TL.gn (S1.trans S2).newB).nil (it_zipT e r e' r') ?_⟩⟩
              simp only [List.length_map, List.length_zip]
              rw [← r.length]
              refine Nat.le_trans (Nat.min_le_left _ _) ?_
              rw [← big_eq]
              exact sz.2 _ _ (R3.sub.tup e)
    | _ => exact q.elim
  | _ => exact q.elim
theorem consts_rep : ∀ {cs : List Const} {ds : List D}, consts cs = some ds → RepL K G (cs.map cVal) ds
  | [], ds, h => by unfold consts at h; cases h; exact .nil
  | k :: r, ds, h => by
    have h : (cD k).bind (fun d => (consts r).map (d :: ·)) = some ds := by unfold consts at h; exact h
    obtain ⟨d, hd, h⟩ := Option.bind_eq_some_iff.mp h
    obtain ⟨l, hl, rfl⟩ := Option.map_eq_some_iff.mp h
    exact .cons (cD_rep hd).1 (consts_rep hl)
theorem goodI_glt (xc : XC ρ c X) {x : Str} {cs : List Const} {p : Pos} (h1 : glB c x = true) (h2 : x ≠ ("__debug__" : Str)) (h3 : (x, cs) ∈ c.gts) : GoodI ρ c X W (.glt x cs) tg (.Name x p) := by
  intro env σ G H f R RR q
  obtain ⟨a, hm, ht⟩ := xc.gts _ h3
  have q : PostI X.K W σ f G H (match consts cs with
    | some ds => if ds.length ≤ big then .ok ds env else .bad
    | none => .bad) RR := q
  cases hc : consts cs with
  | none => rw [hc] at q; exact q.elim
  | some ds =>
    rw [hc] at q
    have q : PostI X.K W σ f G H (if ds.length ≤ big then .ok ds env else .bad) RR := q
    by_cases hz : ds.length ≤ big
    · rw [if_pos hz] at q
      exact SIv.of (pi_tup (pe_glob (xc.gl h1) hm (v := .ref a) rfl (beq_eq_false_iff_ne.mpr h2))) ⟨a, rfl, ⟨_, ht H⟩, q _ G H f R Step.refl (it_tup (fun G1 H1 _ _ => ht H1) (consts_rep hc)) hz⟩
    · rw [if_neg hz] at q; exact q.elim
end
end Pv
namespace Pv
open PySem PySem.Spec PyProof.Rows L2
section
variable {ρ : Nat → Fn} {c : Ctx} {X : Cx} {K : Fg} {W : WX} {G G1 G2 G' H H1 H2 H' : Hp} {f f0 f1 f2 : Fo} {σ : L2.St} {Q : VK} {env env1 : Ev} {bs bs1 bs2 : List Addr}
/-! ### methods of one's own list -/
def mtId : Mt → String
  | .append => "list.append" | .extend => "list.extend" | .insert => "list.insert" | .pop => "list.pop" | .popAt => "list.pop" | .clear => "list.clear" | .reverse => "list.reverse"
def WMt (X : Cx) (id : String) : V → List V → Hp → VK → Prop := fun x xs H Q => ∀ (pins : List (Addr × Obj)) (s : Shared) (σ : L2.St) (v : Value) (us : List Value), Inv X pins σ H s → RelV x v → Vals xs us →
  wpAny (model X.prog X.w) X.A (call (.builtin id) (v :: us)) (EP X pins σ Q) X.xe s
theorem wmt_self {id : String} : MtR X id (WMt X id) := fun pins s σ H x xs v us Q I r1 r2 h => h pins s σ v us I r1 r2
theorem WMt.of {id : String} {r : V → List V → Hp → VK → Prop} (o : MtR X id r) {x : V} {xs : List V} (h : r x xs H Q) : WMt X id x xs H Q := fun pins s σ v us I r1 r2 => o pins s σ H x xs v us Q I r1 r2 h
theorem mt_extR : MtR X "list.extend" (fun x vs H Q => ∃ l b xs zs, x = .ref l ∧ vs = [.ref b] ∧ H l = some (.lst xs) ∧ Rd H b (.lst zs) ∧ xs.length + zs.length ≤ sizeLine ∧ Q .non (upd H l (.lst (xs ++ zs)))) := by
  intro pins s σ H x vs v us Q I rx rv h
  obtain ⟨l, b, xs, zs, rfl, rfl, h1, h2, hz, q⟩ := h
  cases rx
  obtain ⟨u, rfl, ru⟩ := rv.one
  cases ru
  obtain ⟨z1, a1, n1, r1, k1, e1⟩ := I.lstM h1
  obtain ⟨z2, a2, n2, r2, k2, e2⟩ := Inv.lstR I h2
  have s1 : a1.toArray.size = a1.length := List.size_toArray ..
  have s2 : a2.toArray.size = a2.length := List.size_toArray ..
  have nl : ¬ (!a1.toArray.isEmpty && Builtin.List.listTooLong (a1.toArray.size + a2.toArray.size)) = true := by
    rw [notLongL (by omega), Bool.and_false]; exact Bool.false_ne_true
  refine call_meets F.slot_list_extend ⟨_, e1, rfl⟩ F.entry_list_extend (F.args_list_extend_2 _ _) (AutoSeq1.list_extend_list_list_0 l a1.toArray n1 b a2.toArray n2 nl (by omega) (by omega)) ⟨e1, e2, .non, _, I.lset (its' := a1 ++ a2) h1 e1 (by simp) (r1.append r2) (by rw [List.length_append]; omega), rfl, q⟩
theorem OwnL.split {R : V → D → List Addr → Prop} : ∀ {vs : List V} {ds : List D} {bs : List Addr} {j : Nat} {d : D}, OwnL R vs ds bs → ds[j]? = some d → ∃ v b bs', vs[j]? = some v ∧ R v d b ∧ OwnL R (vs.eraseIdx j) (ds.eraseIdx j) bs' ∧ bs.Perm (b ++ bs')
  | _, _, _, _, _, .nil, h => by simp at h
  | _, _, _, 0, _, .cons a r, h => by
    simp at h; subst h
    exact ⟨_, _, _, rfl, a, r, .refl _⟩
  | _, _, _, j + 1, d, .cons (b := b0) a r, h => by
    obtain ⟨v, b, bs', h1, h2, h3, h4⟩ := OwnL.split (j := j) (d := d) r (by simpa using h)
    refine ⟨v, b, b0 ++ bs', by simpa using h1, h2, OwnL.cons a h3, ?_⟩
    refine (List.Perm.append_left b0 h4).trans ?_
    rw [← List.append_assoc, ← List.append_assoc]
    exact List.Perm.append_right bs' List.perm_append_comm
theorem OwnL.take {R : V → D → List Addr → Prop} : ∀ {vs : List V} {ds : List D} {bs : List Addr} (n : Nat), OwnL R vs ds bs → ∃ b1 b2, bs = b1 ++ b2 ∧ OwnL R (vs.take n) (ds.take n) b1 ∧ OwnL R (vs.drop n) (ds.drop n) b2
  | _, _, _, 0, r => ⟨[], _, rfl, .nil, r⟩
  | _, _, _, _ + 1, .nil => ⟨[], [], rfl, .nil, .nil⟩
  | _, _, _, n + 1, .cons (b := b0) a r => by
    obtain ⟨b1, b2, e, h1, h2⟩ := OwnL.take n r
    exact ⟨b0 ++ b1, b2, by rw [e, List.append_assoc], OwnL.cons a h1, h2⟩
theorem OwnL.rev {R : V → D → List Addr → Prop} : ∀ {vs : List V} {ds : List D} {bs : List Addr}, OwnL R vs ds bs → ∃ bs', OwnL R vs.reverse ds.reverse bs' ∧ bs.Perm bs'
  | _, _, _, .nil => ⟨[], .nil, .refl _⟩
  | _, _, _, .cons (b := b0) (v := v) (d := d) a r => by
    obtain ⟨bs', h1, h2⟩ := OwnL.rev r
    rw [List.reverse_cons, List.reverse_cons]
    have o1 : OwnL R [v] [d] b0 := by
      have := OwnL.cons a OwnL.nil
      rwa [List.append_nil] at this
    exact ⟨bs' ++ b0, h1.append o1, (List.Perm.append_left b0 h2).trans List.perm_append_comm⟩
/-- one's own list gets other contents -/
theorem lst_write {G0 H0 : Hp} {k : Nat} {p : Addr} {ds ds' : List D} {xs xs' : List V} {cs cs' : List Addr} (R : Rel K G env σ H f) (T : Tmp K G H f (k + 1) (.ref p) (.lst ds) (p :: cs)) (S : Step f0 G0 H0 f bs G H) (hb : ∀ a ∈ p :: cs', a ∈ bs) (hp : H p = some (.lst xs))
    (pc : p ∉ cs') (nd : cs'.Nodup) (gn : ∀ a ∈ cs', G a = none) (ap : ∀ a ∈ cs', ∀ i, a ∉ f i) (o : OwnL (Own K G H k) xs' ds' cs') :
    Rel K G env σ (upd H p (.lst xs')) f ∧ Tmp K G (upd H p (.lst xs')) f (k + 1) (.ref p) (.lst ds') (p :: cs') ∧ Step f0 G0 H0 f (p :: cs') G (upd H p (.lst xs')) :=
  own_write (k := k + 1) (o := .lst xs') (d := .lst ds') (cs := cs') R (S.lessB hb) (by rw [hp]; exact fun z => nomatch z) (T.gn p List.mem_cons_self) (T.ap p List.mem_cons_self) pc nd gn ap
    fun H' e hk => .inr (.inl ⟨p, xs', ds', cs', rfl, rfl, e, o.imp fun v d b hb o => o.keep (.refl _) fun a ha u e => by
      rw [hk a fun z => pc (z ▸ hb a ha)]; exact e, rfl⟩)
theorem own0_nil : ∀ {vs : List V} {ds : List D} {b : List Addr}, OwnL (Own K G H 0) vs ds b → b = [] := by
  intro vs ds b h
  induction h with
  | nil => rfl
  | cons a r ih => rw [a.2, ih]; rfl
/-- what is put into a list of depth k: it is frozen first, or one's own -/
theorem put_in {k kk : Nat} {y : V} {d : D} (hk : okd k (d, kk) = true) (R : Rel K G env σ H f) (Ty : Tmp K G H f kk y d bs2) : ∃ G5 b5, Le G G5 ∧ (∀ a, a ∉ bs2 → G5 a = G a) ∧ Rel K G5 env σ H f ∧ OwnL (Own K G5 H k) [y] [d] b5 ∧ (∀ a ∈ b5, a ∈ bs2) ∧ b5.Nodup ∧ (∀ a ∈ b5, G5 a = none) ∧
    ∀ (G0 H0 : Hp) (f0 : Fo) (bs : List Addr), Step f0 G0 H0 f bs G H → (∀ a ∈ bs2, a ∈ bs) → Step f0 G0 H0 f bs G5 H := by
  cases k with
  | zero => exact ⟨addG G H bs2, [], .addG Ty.gn, fun a h => addG_out h, R.freeze Ty.gn Ty.ap, RepL.own0 (.cons Ty.rep .nil), fun _ h => (nomatch h), .nil, fun _ h => (nomatch h), fun G0 H0 f0 bs S h => S.freeze Ty.gn fun a ha => S.newB a (h a ha)⟩
  | succ k =>
    refine ⟨G, bs2, .refl _, fun _ _ => rfl, R, ?_, fun _ h => h, Ty.nd, Ty.gn, fun _ _ _ _ S _ => S⟩
    have := OwnL.cons (R := Own K G H (k + 1)) (okd_own (Nat.succ_ne_zero k) hk Ty.own) OwnL.nil
    rwa [List.append_nil] at this
theorem mut_val {m : Mt} {k : Nat} {ds ds' : List D} {ps : List (D × Nat)} {p : D × Nat} {v : V} {vs : List V} {G0 H0 : Hp} (hm : mutL m k ds ps = some (p, ds')) (R : Rel K G env σ H f) (T : Tmp K G H f (k + 1) v (.lst ds) bs) (TA : TmpL K G H f vs ps bs2) (dj : ∀ a ∈ bs, a ∉ bs2)
    (S : Step f0 G0 H0 f (bs ++ bs2) G H) (q : ∀ w G' H' bs' bs3, Rel K G' env σ H' f → Tmp K G' H' f (k + 1) v (.lst ds') bs' → Tmp K G' H' f p.2 w p.1 bs3 → (∀ a ∈ bs', a ∉ bs3) → Step f0 G0 H0 f (bs' ++ bs3) G' H' → Le G G' → (∀ a, a ∉ bs → H' a = H a) → Q w H') : WMt X (mtId m) v vs H Q := by
  obtain ⟨l, xs, cs, rfl, hl, o, rfl⟩ := T.lst
  have lx := o.length
  obtain ⟨pc, nc⟩ := List.nodup_cons.mp T.nd
  have gnc : ∀ a ∈ cs, G a = none := fun a h => T.gn a (List.mem_cons_of_mem _ h)
  have apc : ∀ a ∈ cs, ∀ i, a ∉ f i := fun a h => T.ap a (List.mem_cons_of_mem _ h)
  have S0 : Step f0 G0 H0 f (l :: cs) G H := S.lessB fun a h => List.mem_append_left _ h
  have hkp : ∀ {o : HO} a, a ∉ l :: cs → upd H l o a = H a := fun a h => upd_ne fun z => h (z ▸ List.mem_cons_self)
  have fin : ∀ {xs' : List V} {ds'' : List D} {cs' : List Addr}, p = (.non, 0) → ds' = ds'' → OwnL (Own K G H k) xs' ds'' cs' → (∀ a ∈ cs', a ∈ cs) → cs'.Nodup → Q .non (upd H l (.lst xs')) := by
    intro xs' ds'' cs' e1 e2 o' hs nd
    subst e1 e2
    obtain ⟨h1, h2, h3⟩ := lst_write (cs' := cs') R T S0 (fun a h => (List.mem_cons.mp h).elim (fun z => z ▸ List.mem_cons_self) fun z => List.mem_cons_of_mem _ (hs a z)) hl (fun z => pc (hs _ z)) nd (fun a h => gnc a (hs a h)) (fun a h => apc a (hs a h)) o'
    exact q .non G _ _ [] h1 h2 (Tmp.of_rep .non) (fun _ _ h => nomatch h) (by rw [List.append_nil]; exact h3) (.refl _) hkp
  have put : ∀ {y : V} {d : D} {kk : Nat} {xs' : List V} {ds'' : List D} {b : List Addr}, Tmp K G H f kk y d b → (∀ a ∈ b, a ∈ bs2) → okd k (d, kk) = true → p = (.non, 0) → ds' = ds'' →
      (∀ G5 b5, OwnL (Own K G5 H k) xs ds cs → OwnL (Own K G5 H k) [y] [d] b5 → ∃ cs', OwnL (Own K G5 H k) xs' ds'' cs' ∧ cs'.Perm (cs ++ b5)) → Q .non (upd H l (.lst xs')) := by
    intro y d kk xs' ds'' b Ty hb hk e1 e2 mk
    subst e1 e2
    obtain ⟨G5, b5, l5, g5, R5, o5, hs, nd5, gn5, st5⟩ := put_in hk R Ty
    obtain ⟨cs', o', pm⟩ := mk G5 b5 (o.imp fun v d b _ o => o.keep l5 fun a _ u e => e) o5
    have djc : ∀ a ∈ l :: cs, a ∉ b := fun a h h' => dj a h (hb a h')
    have mem : ∀ a, a ∈ cs' → a ∈ cs ∨ a ∈ b5 := fun a h => List.mem_append.mp (pm.mem_iff.mp h)
    have T5 : Tmp K G5 H f (k + 1) (.ref l) (.lst ds) (l :: cs) := ⟨T.own.keep l5 fun a _ u e => e, T.nd, fun a h => by rw [g5 a (djc a h)]; exact T.gn a h, T.ap⟩
    obtain ⟨h1, h2, h3⟩ := lst_write (cs' := cs') R5 T5 (st5 G0 H0 f0 _ S fun a h => List.mem_append_right _ (hb a h)) (fun a h => (List.mem_cons.mp h).elim (fun z => z ▸ List.mem_append_left _ List.mem_cons_self) fun z => (mem a z).elim (fun z => List.mem_append_left _ (List.mem_cons_of_mem _ z)) fun z => List.mem_append_right _ (hb a (hs a z))) hl
      (fun z => (mem _ z).elim pc fun z => djc l List.mem_cons_self (hs _ z)) (pm.nodup_iff.mpr (List.nodup_append.mpr ⟨nc, nd5, fun a h b h' e => djc a (List.mem_cons_of_mem _ h) (hs a (e ▸ h'))⟩))
      (fun a h => (mem a h).elim (fun z => T5.gn a (List.mem_cons_of_mem _ z)) (gn5 a)) (fun a h => (mem a h).elim (apc a) fun z => Ty.ap a (hs a z)) o'
    exact q .non G5 _ _ [] h1 h2 (Tmp.of_rep .non) (fun _ _ h => nomatch h) (by rw [List.append_nil]; exact h3) l5 hkp
  have pop : ∀ {j : Nat} {d : D}, ds[j]? = some d → p = (d, k) → ds' = ds.eraseIdx j → ∃ y, xs[j]? = some y ∧ Q y (upd H l (.lst (xs.eraseIdx j))) := by
    intro j d hd e1 e2
    subst e1 e2
    obtain ⟨y, b, cs', h1, h2, h3, pm⟩ := o.split hd
    have mem1 : ∀ a ∈ b, a ∈ cs := fun a h => pm.mem_iff.mpr (List.mem_append_left _ h)
    have mem2 : ∀ a ∈ cs', a ∈ cs := fun a h => pm.mem_iff.mpr (List.mem_append_right _ h)
    obtain ⟨n1, n2, n3⟩ := List.nodup_append.mp (pm.nodup_iff.mp nc)
    obtain ⟨g1, g2, g3⟩ := lst_write (cs' := cs') R T S0 (fun a h => (List.mem_cons.mp h).elim (fun z => z ▸ List.mem_cons_self) fun z => List.mem_cons_of_mem _ (mem2 a z)) hl (fun z => pc (mem2 _ z)) n2 (fun a h => gnc a (mem2 a h)) (fun a h => apc a (mem2 a h)) h3
    refine ⟨y, h1, q y G _ _ b g1 g2 ⟨h2.keep (.refl _) fun a ha u e => ?_, n1, fun a h => gnc a (mem1 a h), fun a h => apc a (mem1 a h)⟩ (fun a h h' => ?_) ⟨g3.keep, g3.grow, g3.newA, fun a h => ?_, g3.newG, g3.there⟩ (.refl _) hkp⟩
    · have hne : a ≠ l := fun z => pc (by rw [← z]; exact mem1 a ha)
      rw [upd_ne hne]; exact e
    · rcases List.mem_cons.mp h with z | z
      · subst z; exact pc (mem1 _ h')
      · exact n3 a h' a z rfl
    · rcases List.mem_append.mp h with z | z
      · exact g3.newB a z
      · exact S0.newB a (List.mem_cons_of_mem _ (mem1 a z))
  have hz : ∀ {n : Nat}, n < big → n < sizeLine := fun h => by rw [big_eq]; exact h
  unfold mutL at hm
  split at hm
  · split at hm
    · rename_i hc
      obtain ⟨h1, h2⟩ := and2 hc
      cases hm
      have TA' := TA
      obtain ⟨y, rfl⟩ : ∃ y, vs = [y] := by
        have := TA.own.length
        cases vs with
        | nil => cases this
        | cons y r => cases r with
          | nil => exact ⟨y, rfl⟩
          | cons _ _ => simp at this
      obtain ⟨b1, b2, e, T1, T2, _⟩ := TA.uncons
      refine WMt.of mt_append ⟨l, xs, y, rfl, rfl, hl, by rw [lx]; exact hz (of_decide_eq_true h2), ?_⟩
      exact put T1 (fun a h => by rw [e]; exact List.mem_append_left _ h) h1 rfl rfl fun G5 b5 o5 o6 => ⟨_, o5.append o6, .refl _⟩
    · cases hm
  · split at hm
    · rename_i hc
      obtain ⟨h1, h2⟩ := and2 hc
      cases hm
      have hk := beq_iff_eq.mp h1
      subst hk
      obtain ⟨y, rfl⟩ : ∃ y, vs = [y] := by
        have := TA.own.length
        cases vs with
        | nil => cases this
        | cons y r => cases r with
          | nil => exact ⟨y, rfl⟩
          | cons _ _ => simp at this
      obtain ⟨b1, b2, e, T1, T2, _⟩ := TA.uncons
      have hb : ∀ a ∈ b1, a ∈ bs2 := fun a h => by rw [e]; exact List.mem_append_left _ h
      have R1 := R.freeze T1.gn T1.ap
      have rr := T1.rep
      cases rr with
      | lst er r =>
        refine WMt.of mt_extR ⟨l, _, xs, _, rfl, rfl, hl, R1.sub.rd er, by rw [lx, r.length, big_eq]; exact of_decide_eq_true h2, ?_⟩
        have hcs := own0_nil o
        subst hcs
        have S1 := S.freeze T1.gn fun a h => S.newB a (List.mem_append_right _ (hb a h))
        have T5 : Tmp K (addG G H b1) H f (0 + 1) (.ref l) (.lst ds) [l] := ⟨T.own.keep (.addG T1.gn) fun a _ u e => e, T.nd, fun a h => by rw [addG_out fun z => dj a h (hb a z)]; exact T.gn a h, T.ap⟩
        obtain ⟨g1, g2, g3⟩ := lst_write (cs' := []) R1 T5 S1 (fun a h => List.mem_append_left _ h) hl (fun z => nomatch z) .nil (fun _ z => nomatch z) (fun _ z => nomatch z) (RepL.own0 (((o.rep fun v d b _ o => o.1).mono (.addG T1.gn)).append r))
        exact q .non _ _ _ [] g1 g2 (Tmp.of_rep .non) (fun _ _ h => nomatch h) (by rw [List.append_nil]; exact g3) (.addG T1.gn) hkp
    · cases hm
  · rename_i j kj pp
    split at hm
    · rename_i hc
      obtain ⟨hc, h4⟩ := and2 hc
      obtain ⟨hc, h3⟩ := and2 hc
      obtain ⟨h1, h2⟩ := and2 hc
      cases hm
      obtain ⟨i, y, rfl⟩ : ∃ i y, vs = [i, y] := by
        have := TA.own.length
        match vs, this with
        | [i, y], _ => exact ⟨i, y, rfl⟩
      obtain ⟨b1, b2, e, T1, T2, _⟩ := TA.uncons
      obtain ⟨b3, b4, e4, T3, T4, _⟩ := T2.uncons
      obtain ⟨rfl, _⟩ := int_val T1 rfl
      have h3 := of_decide_eq_true h3
      have h4 := of_decide_eq_true h4
      refine WMt.of mt_insert ⟨l, xs, j, y, rfl, rfl, hl, by rw [lx]; exact hz (of_decide_eq_true h2), h3, by omega, ?_⟩
      refine put T3 (fun a h => by rw [e, e4]; exact List.mem_append_right _ (List.mem_append_left _ h)) h1 rfl rfl fun G5 b5 o5 o6 => ?_
      obtain ⟨c1, c2, ec, k1, k2⟩ := o5.take j.toNat
      refine ⟨_, (k1.append o6).append k2, ?_⟩
      rw [ec, List.append_assoc, List.append_assoc]
      exact List.Perm.append_left c1 List.perm_append_comm
    · cases hm
  · obtain ⟨d, hd, he⟩ := Option.map_eq_some_iff.mp hm
    cases he
    have hv : vs = [] := by
      have := TA.own.length
      cases vs with
      | nil => rfl
      | cons _ _ => cases this
    subst hv
    obtain ⟨y, hy, hq⟩ := pop hd rfl (by rw [List.eraseIdx_length_sub_one])
    refine WMt.of mt_pop ⟨l, xs, y, rfl, rfl, hl, by rw [lx]; exact hy, ?_⟩
    rw [← lx] at hq
    rw [List.eraseIdx_length_sub_one] at hq
    exact hq
  · split at hm
    · rename_i i ki hc
      obtain ⟨j, hj, hm⟩ := Option.bind_eq_some_iff.mp hm
      obtain ⟨d, hd, he⟩ := Option.map_eq_some_iff.mp hm
      cases he
      obtain ⟨y0, rfl⟩ : ∃ y, vs = [y] := by
        have := TA.own.length
        match vs, this with
        | [y], _ => exact ⟨y, rfl⟩
      obtain ⟨b1, b2, e, T1, T2, _⟩ := TA.uncons
      obtain ⟨rfl, _⟩ := int_val T1 rfl
      obtain ⟨y, hy, hq⟩ := pop hd rfl rfl
      exact WMt.of mt_popAt ⟨l, xs, i, j, y, rfl, rfl, hl, by omega, by omega, by rw [lx]; exact hj, hy, hq⟩
    · cases hm
  · cases hm
    have hv : vs = [] := by
      have := TA.own.length
      cases vs with
      | nil => rfl
      | cons _ _ => cases this
    subst hv
    exact WMt.of mt_clear ⟨l, xs, rfl, rfl, hl, fin rfl rfl .nil (fun _ h => nomatch h) .nil⟩
  · cases hm
    have hv : vs = [] := by
      have := TA.own.length
      cases vs with
      | nil => rfl
      | cons _ _ => cases this
    subst hv
    obtain ⟨cs', o', pm⟩ := o.rev
    exact WMt.of mt_reverse ⟨l, xs, rfl, rfl, hl, fin rfl rfl o' (fun a h => pm.mem_iff.mpr h) (pm.nodup_iff.mp nc)⟩
  · cases hm
theorem rel_own {i : Nat} (R : Rel K G env σ H f) (h : isOwnL env[i]? = true) : ∃ a xs, σ[i]? = some (some (.ref a)) ∧ H a = some (.lst xs) := by
  unfold isOwnL at h
  split at h
  · rename_i ds k e
    obtain ⟨v, hv, o⟩ := R.slot i _ _ e
    rcases o with ⟨f, r, e⟩ | ⟨a, xs, es, cs, e1, e2, ha, r, e⟩ | ⟨a, xs, es, cs, e1, e2, ha, r, e⟩ | ⟨a, ks, xs, es, cs, e1, e2, l, ha, r, e⟩ | ⟨a, ks, xs, es, cs, e1, e2, l, ha, r, e⟩
    · cases f
    · subst e1; exact ⟨a, xs, hv, ha⟩
    · cases e2
    · cases e2
    · cases e2
  · cases h
theorem mt_syn (m : Mt) {o : Expr} {es : List Expr} {to : TE} {ap cp : Pos} (hb : attributeBase o (Str.ofString (mtN m)) X.env (eval o X.env) = eval o X.env) (ns : allNS es = true) (hl : es.length = mtA m) (hp : (ap.endLine == cp.line) = true) (ho : PE X o to)
    (q : to σ H fun x H1 => tyV X.K "list" x H1 ∧ SL X es σ H1 fun vs H2 => WMt X (mtId m) x vs H2 Q) : SEv X (.Call (.Attribute o (Str.ofString (mtN m)) ap) es [] cp) σ H Q := by
  cases m with
  | append =>
    match es, hl with
    | [x], _ =>
      have n1 : notStar x = true := (and2 ns).1
      exact SEv.of (pe_bm F.plainAttrs_list F.slot_list_append F.type_list_append wmt_self ho (pa_sem ns) hb (by rw [se_one n1]; rfl) hp (se_one n1) rfl) q
  | extend =>
    match es, hl with
    | [x], _ =>
      have n1 : notStar x = true := (and2 ns).1
      exact SEv.of (pe_bm F.plainAttrs_list F.slot_list_extend F.type_list_extend wmt_self ho (pa_sem ns) hb (by rw [se_one n1]; rfl) hp (se_one n1) rfl) q
  | insert =>
    match es, hl with
    | [x, y], _ =>
      have n1 : notStar x = true := (and2 ns).1
      have n2 : notStar y = true := (and2 (and2 ns).2).1
      exact SEv.of (pe_bm F.plainAttrs_list F.slot_list_insert F.type_list_insert wmt_self ho (pa_sem ns) hb (by rw [se_one n1, se_one n2]; rfl) hp (se_one n1) (by rw [se_one n2]; rfl)) q
  | pop =>
    match es, hl with
    | [], _ => exact SEv.of (pe_bm0 F.plainAttrs_list F.slot_list_pop F.type_list_pop wmt_self ho hb hp) q
  | popAt =>
    match es, hl with
    | [x], _ =>
      have n1 : notStar x = true := (and2 ns).1
      exact SEv.of (pe_bm F.plainAttrs_list F.slot_list_pop F.type_list_pop wmt_self ho (pa_sem ns) hb (by rw [se_one n1]; rfl) hp (se_one n1) rfl) q
  | clear =>
    match es, hl with
    | [], _ => exact SEv.of (pe_bm0 F.plainAttrs_list F.slot_list_clear F.type_list_clear wmt_self ho hb hp) q
  | reverse =>
    match es, hl with
    | [], _ => exact SEv.of (pe_bm0 F.plainAttrs_list F.slot_list_reverse F.type_list_reverse wmt_self ho hb hp) q
theorem good_mut (xc : XC ρ c X) {i : Nat} {m : Mt} {ms : Es} {z : Str} {es : List Expr} {p ap cp : Pos} (hv : varB c i z = true) (ns : allNS es = true) (hl : es.length = mtA m) (hp : (ap.endLine == cp.line) = true) (hs : GoodL ρ c X W ms es) :
    Good ρ c X W (.mut i m ms) (.Call (.Attribute (.Name z p) (Str.ofString (mtN m)) ap) es [] cp) := by
  refine good_dft rfl rfl fun env σ G H f R Q q => ?_
  have q : PostE X.K W σ f G H (if isOwnL env[i]? = true then (evEs ρ ms env).bind fun ps env1 => match env1[i]? with
    | some (some (.lst ds, k + 1)) => (match mutL m k ds ps with
      | some (p, ds') => .ok p (env1.set i (some (.lst ds', k + 1)))
      | none => .bad)
    | _ => .bad else .bad) Q := q
  by_cases hc : isOwnL env[i]? = true
  · rw [if_pos hc] at q
    obtain ⟨a, xs, hs1, ha⟩ := rel_own R hc
    refine mt_syn m (to := SEv X (.Name z p)) rfl ns hl hp pe_sem ?_
    refine var_syn xc hv hs1 ⟨.inl ⟨rfl, xs, .inl (.inl ha)⟩, ?_⟩
    refine hs env σ G H f R _ (bndL (P := fun r => PostE X.K W σ f G H r Q) q (fun _ _ h => h) id fun ps env1 vs G1 H1 f1 bs1 R1 T1 S1 q => ?_)
    have q' : ∃ ds k pr ds', env1[i]? = some (some (.lst ds, k + 1)) ∧ mutL m k ds ps = some (pr, ds') ∧ PostE X.K W σ f G H (.ok pr (env1.set i (some (.lst ds', k + 1)))) Q := by
      split at q
      · rename_i ds k e
        split at q
        · rename_i pr ds' e2
          exact ⟨ds, k, pr, ds', e, e2, q⟩
        · exact q.elim
      · exact q.elim
    obtain ⟨ds, k, pr, ds', e, e2, q⟩ := q'
    obtain ⟨v, hv1, T⟩ := R1.take e
    rw [hs1] at hv1
    cases hv1
    obtain ⟨T1', dj⟩ := T1.step (Step.take (f := f1) (G := G1) (H := H1) (i := i))
    have R2 := R1.kill (i := i)
    refine mut_val e2 R2 T T1' (fun a h h' => dj a h' h) (f0 := f) (G0 := G) (H0 := H) ((S1.trans Step.take).lessB fun a h => (List.mem_append.mp h).elim (fun z => List.mem_append_right _ z) fun z => List.mem_append_left _ z) fun w G' H' bs' bs3 R3 T3 T4 dj3 S3 _ _ => ?_
    have R4 := R3.set (i := i) T3
    rw [set_same hs1, List.set_set] at R4
    refine q w G' H' _ bs3 R4 (T4.setf fun a h h' => dj3 a h' h) ⟨S3.keep, S3.grow, fun j a h => ?_, fun a h => S3.newB a (List.mem_append_right _ h), S3.newG, S3.there⟩
    by_cases hj : j = i
    · subst hj; rw [setf_at] at h; exact S3.newB a (List.mem_append_left _ h)
    · rw [setf_ne hj] at h; exact S3.newA j a h
  · rw [if_neg hc] at q; exact q.elim
/-! ### an inner list of one's own -/
theorem OwnL.foc {R : V → D → List Addr → Prop} : ∀ {vs : List V} {ds : List D} {bs : List Addr} {j : Nat} {d : D}, OwnL R vs ds bs → ds[j]? = some d → ∃ v b rest, vs[j]? = some v ∧ R v d b ∧ bs.Perm (b ++ rest) ∧
    ∀ (R' : V → D → List Addr → Prop) x b', (∀ v d b, (∀ a ∈ b, a ∈ rest) → R v d b → R' v d b) → R' v x b' → ∃ cs, OwnL R' vs (ds.set j x) cs ∧ cs.Perm (b' ++ rest)
  | _, _, _, _, _, .nil, h => by simp at h
  | _, _, _, 0, _, .cons (b := b0) (bs := bs0) a r, h => by
    simp at h; subst h
    exact ⟨_, b0, bs0, rfl, a, .refl _, fun R' x b' f q => ⟨b' ++ bs0, OwnL.cons q (r.imp f), .refl _⟩⟩
  | _, _, _, j + 1, d, .cons (b := b0) (bs := bs0) a r, h => by
    obtain ⟨v, b, rest, h1, h2, h3, h4⟩ := OwnL.foc (j := j) (d := d) r (by simpa using h)
    refine ⟨v, b, b0 ++ rest, by simpa using h1, h2, (List.Perm.append_left b0 h3).trans (List.perm_append_comm_assoc ..), fun R' x b' f q => ?_⟩
    obtain ⟨cs, o, pm⟩ := h4 R' x b' (fun v d b hb o => f v d b (fun a h => List.mem_append_right _ (hb a h)) o) q
    exact ⟨b0 ++ cs, OwnL.cons (f _ _ _ (fun a h => List.mem_append_left _ h) a) o, (List.Perm.append_left b0 pm).trans (List.perm_append_comm_assoc ..)⟩
theorem own_at {n m : Nat} {v1 : V} {d1 d2 : D} {j : Int} (o : Own K G H (n + 1) v1 d1 bs) (h : atD d1 j = some (m, d2)) : ∃ a xs w bs2 rest, v1 = .ref a ∧ (H a = some (.lst xs) ∨ H a = some (.tup xs)) ∧ atI xs j = some w ∧ Own K G H n w d2 bs2 ∧ bs.Perm (bs2 ++ rest) ∧
    ∀ G' H' x b', Le G G' → (∀ a ∈ rest, ∀ o, H a = some o → H' a = some o) → Own K G' H' n w x b' → ∃ cs, Own K G' H' (n + 1) v1 (setD d1 m x) cs ∧ cs.Perm (b' ++ rest) := by
  have go : ∀ {a : Addr} {xs : List V} {ds : List D} {cs : List Addr}, OwnL (Own K G H n) xs ds cs → ((ixN ds.length j).bind fun n => (ds[n]?).map fun d => (n, d)) = some (m, d2) → ∃ w bs2 rest, atI xs j = some w ∧ Own K G H n w d2 bs2 ∧ (a :: cs).Perm (bs2 ++ a :: rest) ∧
      ∀ G' H' x b', Le G G' → (∀ c ∈ rest, ∀ o, H c = some o → H' c = some o) → Own K G' H' n w x b' → ∃ cs', OwnL (Own K G' H' n) xs (ds.set m x) cs' ∧ (a :: cs').Perm (b' ++ a :: rest) := by
    intro a xs ds cs r h
    obtain ⟨m', h1, h2⟩ := Option.bind_eq_some_iff.mp h
    obtain ⟨d', h3, h4⟩ := Option.map_eq_some_iff.mp h2
    cases h4
    obtain ⟨w, b, rest, k1, k2, k3, k4⟩ := r.foc h3
    refine ⟨w, b, rest, by unfold atI; rw [r.length, h1]; exact k1, k2, (List.Perm.cons a k3).trans List.perm_middle.symm, fun G' H' x b' le kp ox => ?_⟩
    obtain ⟨cs', o', pm⟩ := k4 (Own K G' H' n) x b' (fun v d b hb o => o.keep le fun c hc => kp c (hb c hc)) ox
    exact ⟨cs', o', (List.Perm.cons a pm).trans List.perm_middle.symm⟩
  rcases o with ⟨fl, _⟩ | ⟨a, xs, ds, cs, e1, e2, ha, r, e⟩ | ⟨a, xs, ds, cs, e1, e2, ha, r, e⟩ | ⟨a, ks, xs, ds, cs, e1, e2, l, ha, r, e⟩ | ⟨a, ks, xs, ds, cs, e1, e2, l, ha, r, e⟩
  · cases d1 <;> first | (cases h; done) | (cases fl; done)
  · subst e1 e2 e
    obtain ⟨w, b2, rest, h1, h2, h3, h4⟩ := go (a := a) r h
    refine ⟨a, xs, w, b2, a :: rest, rfl, .inl ha, h1, h2, h3, fun G' H' x b' le kp ox => ?_⟩
    obtain ⟨cs', o', pm⟩ := h4 G' H' x b' le (fun c hc => kp c (List.mem_cons_of_mem _ hc)) ox
    exact ⟨_, .inr (.inl ⟨a, xs, _, cs', rfl, rfl, kp a List.mem_cons_self _ ha, o', rfl⟩), pm⟩
  · subst e1 e2 e
    obtain ⟨w, b2, rest, h1, h2, h3, h4⟩ := go (a := a) r h
    refine ⟨a, xs, w, b2, a :: rest, rfl, .inr ha, h1, h2, h3, fun G' H' x b' le kp ox => ?_⟩
    obtain ⟨cs', o', pm⟩ := h4 G' H' x b' le (fun c hc => kp c (List.mem_cons_of_mem _ hc)) ox
    exact ⟨_, .inr (.inr (.inl ⟨a, xs, _, cs', rfl, rfl, kp a List.mem_cons_self _ ha, o', rfl⟩)), pm⟩
  · subst e2; cases h
  · subst e2; cases h
/-- the way to it, its last number first -/
inductive Walk (H : Hp) (env : Ev) : List Pe → V → V → Prop
  | nil {v : V} : Walk H env [] v v
  | cons {p : Pe} {r : List Pe} {v w : V} {a : Addr} {xs : List V} {j : Int} : Walk H env r v (.ref a) → evPe env p = some j → (H a = some (.lst xs) ∨ H a = some (.tup xs)) → atI xs j = some w → Walk H env (p :: r) v w
theorem focus : ∀ {ps : List Pe} {n : Nat} {d d2 : D} {v : V} {bs : List Addr}, Own K G H (n + ps.length) v d bs → pathD env ps d = some d2 → ∃ v2 bs2 rest, Own K G H n v2 d2 bs2 ∧ bs.Perm (bs2 ++ rest) ∧ Walk H env ps v v2 ∧
    ∀ G' H' x b', Le G G' → (∀ a ∈ rest, ∀ o, H a = some o → H' a = some o) → Own K G' H' n v2 x b' → ∃ cs, Own K G' H' (n + ps.length) v (putP env ps d x) cs ∧ cs.Perm (b' ++ rest)
  | [], n, d, d2, v, bs, o, h => by
    cases h
    exact ⟨v, bs, [], o, by rw [List.append_nil], .nil, fun G' H' x b' _ _ ox => ⟨b', ox, by rw [List.append_nil]⟩⟩
  | p :: r, n, d, d2, v, bs, o, h => by
    have e0 : n + (p :: r).length = (n + 1) + r.length := by rw [List.length_cons]; omega
    rw [e0] at o ⊢
    have h0 := h
    obtain ⟨d1, h1, h2⟩ := Option.bind_eq_some_iff.mp h
    obtain ⟨j, h3, h4⟩ := Option.bind_eq_some_iff.mp h2
    obtain ⟨⟨m, d2'⟩, h5, h6⟩ := Option.map_eq_some_iff.mp h4
    cases h6
    obtain ⟨v1, bs1, rest1, o1, pm1, w1, k1⟩ := focus o h1
    obtain ⟨a, xs, w, bs2, rest2, e, ha, hx, o2, pm2, k2⟩ := own_at o1 h5
    subst e
    have pm : bs.Perm (bs2 ++ (rest2 ++ rest1)) := pm1.trans ((List.Perm.append_right rest1 pm2).trans (by rw [List.append_assoc]))
    refine ⟨w, bs2, rest2 ++ rest1, o2, pm, .cons w1 h3 ha hx, fun G' H' x b' le kp ox => ?_⟩
    obtain ⟨cs2, o3, pm3⟩ := k2 G' H' x b' le (fun c hc => kp c (List.mem_append_left _ hc)) ox
    obtain ⟨cs1, o4, pm4⟩ := k1 G' H' (setD d1 m x) cs2 le (fun c hc => kp c (List.mem_append_right _ hc)) o3
    refine ⟨cs1, ?_, pm4.trans ((List.Perm.append_right rest1 pm3).trans (by rw [List.append_assoc]))⟩
    have ep : putP env (p :: r) d x = putP env r d (setD d1 m x) := by
      show (match (pathD env r d).bind fun d1 => (evPe env p).bind fun j => (atD d1 j).map fun q => (d1, q.1) with
        | some (d1, n) => putP env r d (setD d1 n x)
        | none => d) = _
      rw [h1, Option.bind_some, h3, Option.bind_some, h5]; rfl
    rw [ep]; exact o4
theorem setf_nil {i : Nat} {b b2 : List Addr} : setf (setf f i b2) i b = setf f i b := by
  funext j
  by_cases h : j = i
  · subst h; rw [setf_at, setf_at]
  · rw [setf_ne h, setf_ne h, setf_ne h]
theorem Rel.park {i : Nat} {rest : List Addr} (R : Rel K G env σ H f) (hk : ∀ d k, env[i]? ≠ some (some (d, k))) (nd : rest.Nodup) (gn : ∀ a ∈ rest, G a = none) (ap : ∀ a ∈ rest, ∀ j, a ∉ f j) (ht : ∀ a ∈ rest, H a ≠ none) : Rel K G env σ H (setf f i rest) where
  len := R.len
  slot := fun j d k e => by
    have hj : j ≠ i := fun z => hk d k (z ▸ e)
    rw [setf_ne hj]; exact R.slot j d k e
  nd := fun j => by
    by_cases hj : j = i
    · subst hj; rw [setf_at]; exact nd
    · rw [setf_ne hj]; exact R.nd j
  dj := fun j l a h1 h2 => by
    by_cases hj : j = i
    · by_cases hl : l = i
      · rw [hj, hl]
      · subst hj
        rw [setf_at] at h1; rw [setf_ne hl] at h2
        exact absurd h2 (ap a h1 l)
    · by_cases hl : l = i
      · subst hl
        rw [setf_at] at h2; rw [setf_ne hj] at h1
        exact absurd h1 (ap a h2 j)
      · rw [setf_ne hj] at h1; rw [setf_ne hl] at h2
        exact R.dj j l a h1 h2
  gn := fun j a h => by
    by_cases hj : j = i
    · subst hj; rw [setf_at] at h; exact gn a h
    · rw [setf_ne hj] at h; exact R.gn j a h
  ht := fun j a h => by
    by_cases hj : j = i
    · subst hj; rw [setf_at] at h; exact ht a h
    · rw [setf_ne hj] at h; exact R.ht j a h
  sub := R.sub
theorem Rel.unpark {i n k : Nat} {v v2 : V} {d d2 : D} {cs : List Addr} (R : Rel K G env σ H f) (T : Tmp K G H f n v2 d2 bs) (hs : σ[i]? = some (some v)) (o : Own K G H k v d cs) (pm : cs.Perm (bs ++ f i)) : Rel K G (env.set i (some (d, k))) σ H (setf f i cs) := by
  have mem : ∀ a ∈ cs, a ∈ bs ∨ a ∈ f i := fun a h => List.mem_append.mp (pm.mem_iff.mp h)
  have T5 : Tmp K G H (setf f i []) k v d cs := ⟨o, pm.nodup_iff.mpr (List.nodup_append.mpr ⟨T.nd, R.nd i, fun a h b h' e => T.ap a h i (e ▸ h')⟩), fun a h => (mem a h).elim (T.gn a) (R.gn i a), fun a h j hj => by
    by_cases z : j = i
    · subst z; rw [setf_at] at hj; cases hj
    · rw [setf_ne z] at hj
      exact (mem a h).elim (fun q => T.ap a q j hj) fun q => z (R.dj j i a hj q)⟩
  have R5 := (R.kill (i := i)).set (i := i) T5
  rw [set_same hs, List.set_set, setf_nil] at R5
  exact R5
theorem Step.unpark {i : Nat} {G0 H0 : Hp} {cs bs3 : List Addr} (S : Step f0 G0 H0 f (bs ++ bs3) G H) (pm : cs.Perm (bs ++ f i)) : Step f0 G0 H0 (setf f i cs) bs3 G H :=
  ⟨S.keep, S.grow, fun j a h => by
    by_cases hj : j = i
    · subst hj
      rw [setf_at] at h
      exact (List.mem_append.mp (pm.mem_iff.mp h)).elim (fun z => S.newB a (List.mem_append_left _ z)) fun z => S.newA j a z
    · rw [setf_ne hj] at h; exact S.newA j a h, fun a h => S.newB a (List.mem_append_right _ h), S.newG, S.there⟩
theorem pe_syn (xc : XC ρ c X) {p : Pe} {y : Expr} {j : Int} (h : chkPe c p y = true) (R : Rel K G env σ H f) (e : evPe env p = some j) (q : Q (.int j) H) : SEv X y σ H Q := by
  cases p with
  | k j' =>
    cases e
    have h : (decide (vConst y = some (.int j)) || decide (vNegC y = some (.int (-j)))) = true := h
    rcases Bool.or_eq_true _ _ ▸ h with h | h
    · obtain ⟨k, p, rfl⟩ := vConst_eq (of_decide_eq_true h)
      exact SEv.of pe_int q
    · obtain ⟨k, p, p2, rfl⟩ := vNegC_eq (of_decide_eq_true h)
      refine SEv.of (pe_un un_neg pe_sem) (SEv.of pe_int ⟨-j, rfl, ?_⟩)
      show Q (.int (- -j)) H
      rw [Int.neg_neg]; exact q
  | v i =>
    have h : (match vName y with | some x => varB c i x | none => false) = true := h
    split at h
    · rename_i x ex
      obtain ⟨p, rfl⟩ := vName_eq ex
      have e : (match env[i]? with | some (some (.int j, _)) => some j | _ => none) = some j := e
      split at e
      · rename_i jj k es
        cases e
        obtain ⟨v, hv, o⟩ := R.slot i _ _ es
        obtain ⟨r, _⟩ := o.flat (G' := G) rfl
        cases r
        exact var_syn xc h hv q
      · cases e
    · cases h
theorem walk_syn (xc : XC ρ c X) {i : Nat} (R : Rel K G env σ H f) {v : V} (hs : σ[i]? = some (some v)) : ∀ {ps : List Pe} {x : Expr} {v2 : V} {Q : VK}, chkP c i ps x = true → Walk H env ps v v2 → Q v2 H → SEv X x σ H Q
  | [], x, v2, Q, h, w, q => by
    have h : (match vName x with | some y => varB c i y | none => false) = true := h
    split at h
    · rename_i y ex
      obtain ⟨p, rfl⟩ := vName_eq ex
      cases w
      exact var_syn xc h hs q
    · cases h
  | p :: r, x, v2, Q, h, w, q => by
    have h : (match vSub x with | some (x, y) => chkPe c p y && noSl y && chkP c i r x | none => false) = true := h
    split at h
    · rename_i x1 y ex
      obtain ⟨pos, rfl⟩ := vSub_eq ex
      obtain ⟨g, h3⟩ := and2 h
      obtain ⟨h1, h2⟩ := and2 g
      cases w with
      | cons w1 e ha hx =>
        rename_i a xs j
        refine SEv.of (pe_ix wix_self pe_sem pe_sem (plainIx_of h2)) ?_
        refine walk_syn xc R hs h3 w1 (pe_syn xc h1 R e ?_)
        rcases ha with ha | ha
        · exact WIx.of ix_list ⟨a, xs, j, v2, rfl, rfl, .inl (.inl ha), hx, q⟩
        · exact WIx.of ix_tup ⟨a, xs, j, v2, rfl, rfl, .inl (.inl ha), hx, q⟩
    · cases h
theorem base_path {i : Nat} {ps : List Pe} {x : Expr} {z : Str} (h : chkP c i ps x = true) : attributeBase x z X.env (eval x X.env) = eval x X.env := by
  cases ps with
  | nil =>
    have h : (match vName x with | some y => varB c i y | none => false) = true := h
    split at h
    · rename_i y ex
      obtain ⟨p, rfl⟩ := vName_eq ex
      rfl
    · cases h
  | cons p r =>
    have h : (match vSub x with | some (x, y) => chkPe c p y && noSl y && chkP c i r x | none => false) = true := h
    split at h
    · rename_i x1 y ex
      obtain ⟨pos, rfl⟩ := vSub_eq ex
      rfl
    · cases h
theorem good_mutp (xc : XC ρ c X) {i : Nat} {m : Mt} {pp : List Pe} {ms : Es} {x : Expr} {es : List Expr} {ap cp : Pos} (hv : chkP c i pp x = true) (ns : allNS es = true) (hl : es.length = mtA m) (hp : (ap.endLine == cp.line) = true) (hm : GoodL ρ c X W ms es) :
    Good ρ c X W (.mutp i pp m ms) (.Call (.Attribute x (Str.ofString (mtN m)) ap) es [] cp) := by
  refine good_dft rfl rfl fun env σ G H f R Q q => ?_
  have q' : ∃ d k ds, env[i]? = some (some (d, k)) ∧ pathD env pp d = some (.lst ds) ∧ pp.length < k ∧ PostE X.K W σ f G H ((evEs ρ ms (env.set i none)).bind fun qs env1 => (match mutL m (k - pp.length - 1) ds qs with
        | some (p, ds') => .ok p (env1.set i (some (putP env pp d (.lst ds'), k)))
        | none => .bad)) Q := by
    split at q
    · rename_i d k e
      split at q
      · rename_i ds e2
        split at q
        · rename_i hk
          exact ⟨d, k, ds, e, e2, hk, q⟩
        · exact q.elim
      · exact q.elim
    · exact q.elim
  obtain ⟨d, k, ds, e, hd, hk, q⟩ := q'
  obtain ⟨n, rfl⟩ : ∃ n, k = n + 1 + pp.length := ⟨k - pp.length - 1, by omega⟩
  rw [show n + 1 + pp.length - pp.length - 1 = n by omega] at q
  obtain ⟨v, hs1, T⟩ := R.take e
  obtain ⟨v2, bs2, rest, o2, pm, wk, bk⟩ := focus (n := n + 1) T.own hd
  have R0 := R.kill (i := i)
  obtain ⟨a, xs, cs, ev2, ha⟩ : ∃ a xs cs, v2 = .ref a ∧ H a = some (.lst xs) := by
    rcases o2 with ⟨f, r, e⟩ | ⟨a, xs, es, cs, e1, e2, ha, r, e⟩ | ⟨a, xs, es, cs, e1, e2, ha, r, e⟩ | ⟨a, ks, xs, es, cs, e1, e2, l, ha, r, e⟩ | ⟨a, ks, xs, es, cs, e1, e2, l, ha, r, e⟩
    · cases f
    · exact ⟨a, xs, cs, e1, ha⟩
    · cases e2
    · cases e2
    · cases e2
  subst ev2
  refine mt_syn m (to := SEv X x) (base_path hv) ns hl hp pe_sem ?_
  refine walk_syn xc R hs1 hv wk ⟨.inl ⟨rfl, xs, .inl (.inl ha)⟩, ?_⟩
  refine hm (env.set i none) σ G H (setf f i []) R0 _ (bndL (P := fun r => PostE X.K W σ f G H r Q) q (fun _ _ h => ExcP.step h Step.take) id fun ps env1 vs G1 H1 f1 bs1 R1 T1 S1 q => ?_)
  have q' : ∃ pr ds', mutL m n ds ps = some (pr, ds') ∧ PostE X.K W σ f G H (.ok pr (env1.set i (some (putP env pp d (.lst ds'), n + 1 + pp.length)))) Q := by
    split at q
    · rename_i pr ds' e2
      exact ⟨pr, ds', e2, q⟩
    · exact q.elim
  obtain ⟨pr, ds', e2, q⟩ := q'
  obtain ⟨T', dj⟩ := T.step S1
  obtain ⟨T6, -⟩ := T'.step (Step.take (f := f1) (G := G1) (H := H1) (i := i))
  have m2 : ∀ a ∈ bs2, a ∈ f i := fun a h => pm.mem_iff.mpr (List.mem_append_left _ h)
  have mr : ∀ a ∈ rest, a ∈ f i := fun a h => pm.mem_iff.mpr (List.mem_append_right _ h)
  obtain ⟨n1, n2, n3⟩ := List.nodup_append.mp (pm.nodup_iff.mp T.nd)
  have kp : ∀ a ∈ f i, ∀ o, H a = some o → H1 a = some o := fun a h o e => S1.keep a o e (T.ap a h)
  have hk1 : ∀ d k, (env1.set i none)[i]? ≠ some (some (d, k)) := fun d k e => by
    by_cases hl : i < env1.length
    · rw [List.getElem?_set_self hl] at e; cases e
    · rw [List.getElem?_eq_none (by simpa using hl)] at e; cases e
  have R2 := (R1.kill (i := i)).park hk1 n2 (fun a h => T6.gn a (mr a h)) (fun a h => T6.ap a (mr a h)) (fun a h => T6.own.there a (mr a h))
  rw [setf_nil] at R2
  have T2 : Tmp X.K G1 H1 (setf f1 i rest) (n + 1) (.ref a) (.lst ds) bs2 := ⟨o2.keep S1.grow fun a h => kp a (m2 a h), n1, fun a h => T6.gn a (m2 a h), fun a h j hj => by
    by_cases z : j = i
    · subst z; rw [setf_at] at hj; exact n3 a h a hj rfl
    · rw [setf_ne z] at hj; exact T'.ap a (m2 a h) j hj⟩
  have TA : TmpL X.K G1 H1 (setf f1 i rest) vs ps bs1 := ⟨T1.own, T1.nd, T1.gn, fun a h j hj => by
    by_cases z : j = i
    · subst z; rw [setf_at] at hj; exact dj a (mr a hj) h
    · rw [setf_ne z] at hj; exact T1.ap a h j hj⟩
  have S2 : Step f G H f1 (f i ++ bs1) G1 H1 := Step.take.trans S1
  have S3 : Step f G H (setf f1 i rest) (bs2 ++ bs1) G1 H1 := ⟨S2.keep, S2.grow, fun j a h => by
    by_cases z : j = i
    · subst z; rw [setf_at] at h; exact S2.newB a (List.mem_append_left _ (mr a h))
    · rw [setf_ne z] at h; exact S2.newA j a h, fun a h => S2.newB a ((List.mem_append.mp h).elim (fun z => List.mem_append_left _ (m2 a z)) fun z => List.mem_append_right _ z), S2.newG, S2.there⟩
  refine mut_val e2 R2 T2 TA (fun a h h' => dj a (m2 a h) h') S3 fun w G' H' bs' bs3 R3 T3 T4 dj3 S4 le hkp => ?_
  obtain ⟨cs, oc, pmc⟩ := bk G' H' (.lst ds') bs' (S1.grow.trans le) (fun a h o e => by rw [hkp a fun z => n3 a z a h rfl]; exact kp a (mr a h) o e) T3.own
  have pmc' : cs.Perm (bs' ++ setf f1 i rest i) := by rw [setf_at]; exact pmc
  have R5 := R3.unpark T3 hs1 oc pmc'
  rw [List.set_set] at R5
  refine q w G' H' _ bs3 R5 (T4.setf fun a h h' => ?_) (S4.unpark pmc')
  rcases List.mem_append.mp (pmc'.mem_iff.mp h') with z | z
  · exact dj3 a z h
  · exact T4.ap a h i z
theorem plain_path {i : Nat} {ps : List Pe} {x : Expr} (h : chkP c i ps x = true) : plainB x = true := by
  cases ps with
  | nil =>
    have h : (match vName x with | some y => varB c i y | none => false) = true := h
    split at h
    · rename_i y ex
      obtain ⟨p, rfl⟩ := vName_eq ex
      rfl
    · cases h
  | cons p r =>
    have h : (match vSub x with | some (x, y) => chkPe c p y && noSl y && chkP c i r x | none => false) = true := h
    split at h
    · rename_i x1 y ex
      obtain ⟨pos, rfl⟩ := vSub_eq ex
      rfl
    · cases h
theorem good_pth (xc : XC ρ c X) {i : Nat} {pp : List Pe} {x : Expr} (hv : chkP c i pp x = true) : Good ρ c X W (.pth i pp) x := by
  refine good_dft rfl (plain_path hv) fun env σ G H f R Q q => ?_
  split at q
  · rename_i d k e
    split at q
    · rename_i hk
      split at q
      · rename_i d2 e2
        obtain ⟨v, hs, o⟩ := R.slot i d k e
        obtain ⟨v2, bs2, rest, o2, pm, wk, bk⟩ := focus (n := 0) (by rw [Nat.zero_add, ← hk]; exact o) e2
        exact walk_syn xc R hs hv wk (q v2 G H f [] R (Tmp.of_rep o2.1) Step.refl)
      · exact q.elim
    · exact q.elim
  · exact q.elim
end
end Pv
namespace Pv
open PySem PySem.Spec PyProof.Rows L2
section
variable {ρ : Nat → Fn}
theorem chkEs_ns {c : Ctx} : ∀ {ms : Es} {es : List Expr}, chkEs c ms es = true → allNS es = true ∧ esLen ms = es.length
  | .nil, [], _ => ⟨rfl, rfl⟩
  | .nil, _ :: _, h => by unfold chkEs at h; cases h
  | .cons _ _, [], h => by unfold chkEs at h; cases h
  | .cons a r, e :: es, h => by
    have h : (notStar e && chkE c a e && chkEs c r es) = true := by unfold chkEs at h; exact h
    obtain ⟨h1, h3⟩ := and2 h
    obtain ⟨h1, h2⟩ := and2 h1
    obtain ⟨h4, h5⟩ := chkEs_ns h3
    exact ⟨by show (notStar e && allNS es) = true; rw [h1, h4]; rfl, congrArg (· + 1) h5⟩
theorem chkIs_len {c : Ctx} : ∀ {is : List Nat} {es : List Expr}, chkIs c is es = true → is.length = es.length
  | [], [], _ => rfl
  | [], _ :: _, h => by cases h
  | _ :: _, [], h => by cases h
  | i :: is, e :: es, h => by
    have h : (notStar e && (match vName e with | some x => varB c i x | none => false) && chkIs c is es) = true := h
    exact congrArg (· + 1) (chkIs_len (and2 h).2)
theorem chkIs_ns {c : Ctx} : ∀ {is : List Nat} {es : List Expr}, chkIs c is es = true → allNS es = true
  | [], [], _ => rfl
  | [], _ :: _, h => by cases h
  | _ :: _, [], h => by cases h
  | i :: is, e :: es, h => by
    have h : (notStar e && (match vName e with | some x => varB c i x | none => false) && chkIs c is es) = true := h
    obtain ⟨h1, h3⟩ := and2 h
    obtain ⟨h1, h2⟩ := and2 h1
    show (notStar e && allNS es) = true
    rw [h1, chkIs_ns h3]; rfl
theorem allNS_app : ∀ {l1 l2 : List Expr}, allNS l1 = true → allNS l2 = true → allNS (l1 ++ l2) = true
  | [], _, _, h => h
  | e :: r, l2, h, h2 => by
    have h : (notStar e && allNS r) = true := h
    obtain ⟨h1, h3⟩ := and2 h
    show (notStar e && allNS (r ++ l2)) = true
    rw [h1, allNS_app h3 h2]; rfl
theorem ne_of_bne {a b : Str} (h : (a != b) = true) : a ≠ b := bne_iff_ne.mp h
mutual
theorem snd_E : ∀ (m : E) (c : Ctx) (X : Cx) (W : WX) (e : Expr), XC ρ c X → Takes X W → chkE c m e = true → Good ρ c X W m e
  | .var i, c, X, W, e, xc, tk, h => by
    have h : (match vName e with | some x => varB c i x | none => false) = true := by unfold chkE at h; exact h
    split at h
    · rename_i x ex; obtain ⟨p, rfl⟩ := vName_eq ex; exact good_var xc h
    · cases h
  | .frz i, c, X, W, e, xc, tk, h => by
    have h : (match vName e with | some x => varB c i x | none => false) = true := by unfold chkE at h; exact h
    split at h
    · rename_i x ex; obtain ⟨p, rfl⟩ := vName_eq ex; exact good_frz xc h
    · cases h
  | .mv i, c, X, W, e, xc, tk, h => by
    have h : (match vName e with | some x => varB c i x | none => false) = true := by unfold chkE at h; exact h
    split at h
    · rename_i x ex; obtain ⟨p, rfl⟩ := vName_eq ex; exact good_mv xc h
    · cases h
  | .lend is m, c, X, W, e, xc, tk, h => by
    have h : chkE c m e = true := by unfold chkE at h; exact h
    exact good_lend (snd_E m c X W e xc tk h)
  | .cst k, c, X, W, e, xc, tk, h => by
    have h : (vConst e == some k) = true := by unfold chkE at h; exact h
    obtain ⟨j, p, rfl⟩ := vConst_eq (beq_iff_eq.mp h)
    exact good_cst
  | .glb y k, c, X, W, e, xc, tk, h => by
    have h : (match vName e with | some x => decide (x = y) && glB c x && (x != ("__debug__" : Str)) && decide ((y, k) ∈ c.gcs) | none => false) = true := by unfold chkE at h; exact h
    split at h
    · rename_i x ex
      obtain ⟨p, rfl⟩ := vName_eq ex
      obtain ⟨h1, h4⟩ := and2 h
      obtain ⟨h1, h3⟩ := and2 h1
      obtain ⟨h1, h2⟩ := and2 h1
      cases of_decide_eq_true h1
      exact good_glb xc h2 (ne_of_bne h3) (of_decide_eq_true h4)
    · cases h
  | .fnv y, c, X, W, e, xc, tk, h => by
    have h : (match vName e with | some x => decide (x = y) && glB c x && (x != ("__debug__" : Str)) && decide (y ∈ c.fns.map (·.1)) | none => false) = true := by unfold chkE at h; exact h
    split at h
    · rename_i x ex
      obtain ⟨p, rfl⟩ := vName_eq ex
      obtain ⟨h1, h4⟩ := and2 h
      obtain ⟨h1, h3⟩ := and2 h1
      obtain ⟨h1, h2⟩ := and2 h1
      cases of_decide_eq_true h1
      exact good_fnv xc h2 (ne_of_bne h3) (of_decide_eq_true h4)
    · cases h
  | .op o ms, c, X, W, e, xc, tk, h => by
    have h : (match opArgs c o e with | some es => chkEs c ms es | none => false) = true := by unfold chkE at h; exact h
    split at h
    · rename_i es ex; exact good_op xc ex (snd_Es ms c X W es xc tk h)
    · cases h
  | .and a b, c, X, W, e, xc, tk, h => by
    have h : (match vBool e with
      | some (.And, x, y, [], _) => chkE c a x && chkE c b y
      | some (.And, x, y, z :: r, p) => chkE c a x && chkE c b (.BoolOp .And (y :: z :: r) p)
      | _ => false) = true := by unfold chkE at h; exact h
    split at h
    · rename_i x y p ex
      obtain ⟨h1, h2⟩ := and2 h
      cases vBool_eq ex
      exact good_and (snd_E a c X W x xc tk h1) (good_oneAnd (snd_E b c X W y xc tk h2))
    · rename_i x y z r p ex
      obtain ⟨h1, h2⟩ := and2 h
      cases vBool_eq ex
      exact good_and (snd_E a c X W x xc tk h1) (snd_E b c X W _ xc tk h2)
    · cases h
  | .or a b, c, X, W, e, xc, tk, h => by
    have h : (match vBool e with
      | some (.Or, x, y, [], _) => chkE c a x && chkE c b y
      | some (.Or, x, y, z :: r, p) => chkE c a x && chkE c b (.BoolOp .Or (y :: z :: r) p)
      | _ => false) = true := by unfold chkE at h; exact h
    split at h
    · rename_i x y p ex
      obtain ⟨h1, h2⟩ := and2 h
      cases vBool_eq ex
      exact good_or (snd_E a c X W x xc tk h1) (good_oneOr (snd_E b c X W y xc tk h2))
    · rename_i x y z r p ex
      obtain ⟨h1, h2⟩ := and2 h
      cases vBool_eq ex
      exact good_or (snd_E a c X W x xc tk h1) (snd_E b c X W _ xc tk h2)
    · cases h
  | .not a, c, X, W, e, xc, tk, h => by
    have h : (match vNot e with | some x => chkE c a x | none => false) = true := by unfold chkE at h; exact h
    split at h
    · rename_i x ex; obtain ⟨p, rfl⟩ := vNot_eq ex; exact good_not (snd_E a c X W x xc tk h)
    · cases h
  | .chn p q a b d, c, X, W, e, xc, tk, h => by
    have h : (match vChn e with
      | some (o1, o2, x, y, z) => decide (o1 = cOp p) && decide (o2 = cOp q) && !(lastMarks [o1, o2] [y, z]) && chkE c a x && chkE c b y && chkE c d z
      | none => false) = true := by unfold chkE at h; exact h
    split at h
    · rename_i o1 o2 x y z ex
      obtain ⟨pos, rfl⟩ := vChn_eq ex
      obtain ⟨h1, h6⟩ := and2 h
      obtain ⟨h1, h5⟩ := and2 h1
      obtain ⟨h1, h4⟩ := and2 h1
      obtain ⟨h1, h3⟩ := and2 h1
      obtain ⟨h1, h2⟩ := and2 h1
      cases of_decide_eq_true h1
      cases of_decide_eq_true h2
      exact good_chn xc (by rw [Bool.not_eq_true'] at h3; exact h3) (snd_E a c X W x xc tk h4) (snd_E b c X W y xc tk h5) (snd_E d c X W z xc tk h6)
    · cases h
  | .chn3 p q r a b d w, c, X, W, e, xc, tk, h => by
    have h : (match vChn3 e with
      | some (o1, o2, o3, x, y, z, u) => decide (o1 = cOp p) && decide (o2 = cOp q) && decide (o3 = cOp r) && !(lastMarks [o1, o2, o3] [y, z, u]) && chkE c a x && chkE c b y && chkE c d z && chkE c w u
      | none => false) = true := by unfold chkE at h; exact h
    split at h
    · rename_i o1 o2 o3 x y z u ex
      obtain ⟨pos, rfl⟩ := vChn3_eq ex
      obtain ⟨h1, h8⟩ := and2 h
      obtain ⟨h1, h7⟩ := and2 h1
      obtain ⟨h1, h6⟩ := and2 h1
      obtain ⟨h1, h5⟩ := and2 h1
      obtain ⟨h1, h4⟩ := and2 h1
      obtain ⟨h1, h3⟩ := and2 h1
      obtain ⟨h1, h2⟩ := and2 h1
      cases of_decide_eq_true h1
      cases of_decide_eq_true h2
      cases of_decide_eq_true h3
      exact good_chn3 xc (by rw [Bool.not_eq_true'] at h4; exact h4) (snd_E a c X W x xc tk h5) (snd_E b c X W y xc tk h6) (snd_E d c X W z xc tk h7) (snd_E w c X W u xc tk h8)
    · cases h
  | .callv i cs ms, c, X, W, e, xc, tk, h => by
    have h : (match vCall e with
      | some (f, x :: es) => varB c i f && (cs.all fun p => c.fns[p.2]? == some (p.1, es.length + 1)) && chkEs c ms (x :: es)
      | _ => false) = true := by unfold chkE at h; exact h
    split at h
    · rename_i f x es ex
      obtain ⟨p, q, rfl⟩ := vCall_eq ex
      obtain ⟨h1, h4⟩ := and2 h
      obtain ⟨h1, h2⟩ := and2 h1
      obtain ⟨n1, n2⟩ := chkEs_ns h4
      exact good_callv xc h1 h2 n1 (snd_Es ms c X W _ xc tk h4) fun env ps env1 z => by rw [evEs_len z, n2]; rfl
    · cases h
  | .lst n ms, c, X, W, e, xc, tk, h => by
    have h : (match vList e with | some es => chkEs c ms es | none => false) = true := by unfold chkE at h; exact h
    split at h
    · rename_i es ex; obtain ⟨p, rfl⟩ := vList_eq ex; exact good_lst (chkEs_ns h).1 (snd_Es ms c X W es xc tk h)
    · cases h
  | .tup n ms, c, X, W, e, xc, tk, h => by
    have h : (match vTup e with | some es => chkEs c ms es | none => false) = true := by unfold chkE at h; exact h
    split at h
    · rename_i es ex; obtain ⟨k, p, rfl⟩ := vTup_eq ex; exact good_tup (chkEs_ns h).1 (snd_Es ms c X W es xc tk h)
    · cases h
  | .slc a lo hi, c, X, W, e, xc, tk, h => by
    have h : (match vSlc e with | some (x, l, h) => chkE c a x && chkO c lo l && chkO c hi h | none => false) = true := by unfold chkE at h; exact h
    split at h
    · rename_i x l h0 ex
      obtain ⟨p, q, rfl⟩ := vSlc_eq ex
      obtain ⟨h1, h3⟩ := and2 h
      obtain ⟨h1, h2⟩ := and2 h1
      exact good_slc (snd_E a c X W x xc tk h1) (snd_O lo c X W l xc tk h2) (snd_O hi c X W h0 xc tk h3)
    · cases h
  | .rev a, c, X, W, e, xc, tk, h => by
    have h : (match vRev e with | some x => chkE c a x | none => false) = true := by unfold chkE at h; exact h
    split at h
    · rename_i x ex; obtain ⟨k, p1, p2, p3, p4, rfl⟩ := vRev_eq ex; exact good_rev (snd_E a c X W x xc tk h)
    · cases h
  | .call j ms, c, X, W, e, xc, tk, h => by
    have h : (match vCall e with
      | some (f, x :: es) => (c.fns[j]? == some (f, es.length + 1)) && glB c f && (f != ("__debug__" : Str)) && chkEs c ms (x :: es)
      | _ => false) = true := by unfold chkE at h; exact h
    split at h
    · rename_i f x es ex
      obtain ⟨p, q, rfl⟩ := vCall_eq ex
      obtain ⟨h1, h4⟩ := and2 h
      obtain ⟨h1, h3⟩ := and2 h1
      obtain ⟨h1, h2⟩ := and2 h1
      obtain ⟨n1, n2⟩ := chkEs_ns h4
      exact good_call xc tk (beq_iff_eq.mp h1) h2 (ne_of_bne h3) n1 (snd_Es ms c X W _ xc tk h4) fun env ps env1 z => by rw [evEs_len z, n2]; rfl
    · cases h
  | .cio j is ms, c, X, W, e, xc, tk, h => by
    have h : (match vCall e with
      | some (f, x :: es) => (c.fns[j]? == some (f, es.length + 1)) && glB c f && (f != ("__debug__" : Str)) && chkIs c is ((x :: es).take is.length) && chkEs c ms ((x :: es).drop is.length)
      | _ => false) = true := by unfold chkE at h; exact h
    split at h
    · rename_i f x es ex
      obtain ⟨p, q, rfl⟩ := vCall_eq ex
      obtain ⟨h1, h5⟩ := and2 h
      obtain ⟨h1, h4⟩ := and2 h1
      obtain ⟨h1, h3⟩ := and2 h1
      obtain ⟨h1, h2⟩ := and2 h1
      obtain ⟨n1, n2⟩ := chkEs_ns h5
      have hl : x :: es = (x :: es).take is.length ++ (x :: es).drop is.length := (List.take_append_drop _ _).symm
      exact good_cio xc tk hl (beq_iff_eq.mp h1) h2 (ne_of_bne h3) (by rw [hl]; exact allNS_app (chkIs_ns h4) n1) h4 (chkIs_len h4) (snd_Es ms c X W _ xc tk h5) n2
    · cases h
  | .cit j m ms, c, X, W, e, xc, tk, h => by
    have h : (match vCall e with
      | some (f, x :: es) => (c.fns[j]? == some (f, es.length + 1)) && glB c f && (f != ("__debug__" : Str)) && notStar x && chkE c m x && chkEs c ms es
      | _ => false) = true := by unfold chkE at h; exact h
    split at h
    · rename_i f x es ex
      obtain ⟨p, q, rfl⟩ := vCall_eq ex
      obtain ⟨h1, h6⟩ := and2 h
      obtain ⟨h1, h5⟩ := and2 h1
      obtain ⟨h1, h4⟩ := and2 h1
      obtain ⟨h1, h3⟩ := and2 h1
      obtain ⟨h1, h2⟩ := and2 h1
      obtain ⟨n1, n2⟩ := chkEs_ns h6
      exact good_cit xc tk (beq_iff_eq.mp h1) h2 (ne_of_bne h3) (by show (notStar x && allNS es) = true; rw [h4, n1]; rfl) (snd_E m c X W x xc tk h5) (snd_Es ms c X W _ xc tk h6) fun env ps env1 z => by rw [evEs_len z, n2]
    · cases h
  | .comp n own t it k m, c, X, W, e, xc, tk, h => by
    have h9 : (match vComp e with
      | some (elt, tg, iter, ifs, scope) => (match ownNames c own with
        | some on => blkC c.N c.sc scope on && ((tIdx t).all fun i => own.contains i) && foldOk iter && chkI c it tg iter && chkT (c.blk scope) t tg && chkOT (c.blk scope) k ifs && chkE (c.blk scope) m elt
        | none => false)
      | none => false) = true := by unfold chkE at h; exact h
    split at h9
    · rename_i elt tg iter ifs scope ex
      obtain ⟨p, rfl⟩ := vComp_eq ex
      split at h9
      · rename_i on hon
        obtain ⟨h1, h7⟩ := and2 h9
        obtain ⟨h1, h6⟩ := and2 h1
        obtain ⟨h1, h5⟩ := and2 h1
        obtain ⟨h1, h4⟩ := and2 h1
        obtain ⟨h1, h3⟩ := and2 h1
        obtain ⟨h1, h2⟩ := and2 h1
        exact good_comp xc hon h1 h2 h3 (snd_I it c X W tg iter xc tk h4) h5 (fun X' xc' => snd_OT k (c.blk scope) X' _ ifs xc' takes0 h6) (fun X' xc' => snd_E m (c.blk scope) X' _ elt xc' takes0 h7)
      · cases h9
    · cases h9
  | .idx i m, c, X, W, e, xc, tk, h => by
    have h9 : (match vSub e with
      | some (x, y) => (match vName x with | some z => varB c i z | none => false) && noSl y && chkE c m y
      | none => false) = true := by unfold chkE at h; exact h
    split at h9
    · rename_i x y ex
      obtain ⟨q, rfl⟩ := vSub_eq ex
      obtain ⟨k1, k3⟩ := and2 h9
      obtain ⟨k4, k2⟩ := and2 k1
      clear k1
      split at k4
      · rename_i z ez; obtain ⟨p, ez'⟩ := vName_eq ez; dsimp only at ez' ⊢; subst ez'; exact good_idx xc k4 k2 (snd_E m c X W y xc tk k3)
      · cases k4
    · cases h9
  | .mut i m ms, c, X, W, e, xc, tk, h => by
    have h9 : (match vMth e with
      | some (x, name, es, l1, l2) => (match vName x with | some z => varB c i z | none => false) && decide (name = Str.ofString (mtN m)) && decide (es.length = mtA m) && (l1 == l2) && chkEs c ms es
      | none => false) = true := by unfold chkE at h; exact h
    clear h
    split at h9
    · rename_i x name es l1 l2 ex
      obtain ⟨ap, cp, e1, e2, e3⟩ := vMth_eq ex
      dsimp only at e1 e2 e3
      obtain ⟨g1, k5⟩ := and2 h9
      obtain ⟨g2, k4⟩ := and2 g1
      obtain ⟨g3, k3⟩ := and2 g2
      obtain ⟨k1, k2⟩ := and2 g3
      clear h9 g1 g2 g3
      split at k1
      · rename_i z ez
        obtain ⟨p, ez'⟩ := vName_eq ez
        cases of_decide_eq_true k2
        subst e1 ez'
        rw [e2, e3] at k4
        exact good_mut xc k1 (chkEs_ns k5).1 (of_decide_eq_true k3) k4 (snd_Es ms c X W es xc tk k5)
      · cases k1
    · cases h9
  | .pth i pp, c, X, W, e, xc, tk, h => by
    have h9 : chkP c i pp e = true := by unfold chkE at h; exact h
    exact good_pth xc h9
  | .mutp i pp m ms, c, X, W, e, xc, tk, h => by
    have h9 : (match vMth e with
      | some (x, name, es, l1, l2) => chkP c i pp x && decide (name = Str.ofString (mtN m)) && decide (es.length = mtA m) && (l1 == l2) && chkEs c ms es
      | none => false) = true := by unfold chkE at h; exact h
    clear h
    split at h9
    · rename_i x name es l1 l2 ex
      obtain ⟨ap, cp, e1, e2, e3⟩ := vMth_eq ex
      dsimp only at e1 e2 e3
      obtain ⟨g1, k5⟩ := and2 h9
      obtain ⟨g2, k4⟩ := and2 g1
      obtain ⟨g3, k3⟩ := and2 g2
      obtain ⟨k1, k2⟩ := and2 g3
      clear h9 g1 g2 g3
      cases of_decide_eq_true k2
      subst e1
      rw [e2, e3] at k4
      exact good_mutp xc k1 (chkEs_ns k5).1 (of_decide_eq_true k3) k4 (snd_Es ms c X W es xc tk k5)
    · cases h9
theorem snd_Es : ∀ (ms : Es) (c : Ctx) (X : Cx) (W : WX) (es : List Expr), XC ρ c X → Takes X W → chkEs c ms es = true → GoodL ρ c X W ms es
  | .nil, c, X, W, [], xc, tk, h => goodL_nil
  | .nil, c, X, W, _ :: _, xc, tk, h => by unfold chkEs at h; cases h
  | .cons a r, c, X, W, [], xc, tk, h => by unfold chkEs at h; cases h
  | .cons a r, c, X, W, e :: es, xc, tk, h => by
    have h : (notStar e && chkE c a e && chkEs c r es) = true := by unfold chkEs at h; exact h
    obtain ⟨h1, h3⟩ := and2 h
    obtain ⟨h1, h2⟩ := and2 h1
    exact goodL_cons (snd_E a c X W e xc tk h2) (snd_Es r c X W es xc tk h3)
theorem snd_O : ∀ (m : OE) (c : Ctx) (X : Cx) (W : WX) (e : Option Expr), XC ρ c X → Takes X W → chkO c m e = true → GoodO ρ c X W m e
  | .no, c, X, W, none, xc, tk, h => goodO_no
  | .no, c, X, W, some _, xc, tk, h => by unfold chkO at h; cases h
  | .so a, c, X, W, none, xc, tk, h => by unfold chkO at h; cases h
  | .so a, c, X, W, some e, xc, tk, h => goodO_so (snd_E a c X W e xc tk (by unfold chkO at h; exact h))
theorem snd_OT : ∀ (m : OE) (c : Ctx) (X : Cx) (W : WX) (e : List Expr), XC ρ c X → Takes X W → chkOT c m e = true → GoodOT ρ c X W m e
  | .no, c, X, W, [], xc, tk, h => goodOT_no
  | .no, c, X, W, _ :: _, xc, tk, h => by unfold chkOT at h; cases h
  | .so a, c, X, W, [], xc, tk, h => by unfold chkOT at h; cases h
  | .so a, c, X, W, [e], xc, tk, h => goodOT_so (snd_E a c X W e xc tk (by unfold chkOT at h; exact h))
  | .so a, c, X, W, _ :: _ :: _, xc, tk, h => by unfold chkOT at h; cases h
theorem snd_I : ∀ (m : I) (c : Ctx) (X : Cx) (W : WX) (tg e : Expr), XC ρ c X → Takes X W → chkI c m tg e = true → GoodI ρ c X W m tg e
  | .ex a, c, X, W, tg, e, xc, tk, h => by
    have h : (notSet e && chkE c a e) = true := by unfold chkI at h; exact h
    exact goodI_ex (snd_E a c X W e xc tk (and2 h).2)
  | .rng1 a, c, X, W, tg, e, xc, tk, h => by
    have h : (match vCall e with | some (f, [x]) => decide (f = Str.ofString "range") && bltB c f && notStar x && chkE c a x | _ => false) = true := by unfold chkI at h; exact h
    split at h
    · rename_i f x ex
      obtain ⟨p, q, rfl⟩ := vCall_eq ex
      obtain ⟨h1, h4⟩ := and2 h
      obtain ⟨h1, h3⟩ := and2 h1
      obtain ⟨h1, h2⟩ := and2 h1
      cases of_decide_eq_true h1
      exact goodI_rng1 xc h2 h3 (snd_E a c X W x xc tk h4)
    · cases h
  | .rng2 a b, c, X, W, tg, e, xc, tk, h => by
    have h : (match vCall e with | some (f, [x, y]) => decide (f = Str.ofString "range") && bltB c f && notStar x && notStar y && chkE c a x && chkE c b y | _ => false) = true := by unfold chkI at h; exact h
    split at h
    · rename_i f x y ex
      obtain ⟨p, q, rfl⟩ := vCall_eq ex
      obtain ⟨h1, h6⟩ := and2 h
      obtain ⟨h1, h5⟩ := and2 h1
      obtain ⟨h1, h4⟩ := and2 h1
      obtain ⟨h1, h3⟩ := and2 h1
      obtain ⟨h1, h2⟩ := and2 h1
      cases of_decide_eq_true h1
      exact goodI_rng2 xc h2 h3 h4 (snd_E a c X W x xc tk h5) (snd_E b c X W y xc tk h6)
    · cases h
  | .rng3 a b d, c, X, W, tg, e, xc, tk, h => by
    have h : (match vCall e with | some (f, [x, y, z]) => decide (f = Str.ofString "range") && bltB c f && notStar x && notStar y && notStar z && chkE c a x && chkE c b y && chkE c d z | _ => false) = true := by unfold chkI at h; exact h
    split at h
    · rename_i f x y z ex
      obtain ⟨p, q, rfl⟩ := vCall_eq ex
      obtain ⟨h1, h8⟩ := and2 h
      obtain ⟨h1, h7⟩ := and2 h1
      obtain ⟨h1, h6⟩ := and2 h1
      obtain ⟨h1, h5⟩ := and2 h1
      obtain ⟨h1, h4⟩ := and2 h1
      obtain ⟨h1, h3⟩ := and2 h1
      obtain ⟨h1, h2⟩ := and2 h1
      cases of_decide_eq_true h1
      exact goodI_rng3 xc h2 h3 h4 h5 (snd_E a c X W x xc tk h6) (snd_E b c X W y xc tk h7) (snd_E d c X W z xc tk h8)
    · cases h
  | .enum a, c, X, W, tg, e, xc, tk, h => by
    have h : ((vTup tg).isSome && (match vCall e with | some (f, [x]) => decide (f = Str.ofString "enumerate") && bltB c f && notStar x && chkE c a x | _ => false)) = true := by unfold chkI at h; exact h
    obtain ⟨h0, h⟩ := and2 h
    obtain ⟨l, hl⟩ := Option.isSome_iff_exists.mp h0
    obtain ⟨k, p0, rfl⟩ := vTup_eq hl
    split at h
    · rename_i f x ex
      obtain ⟨p, q, rfl⟩ := vCall_eq ex
      obtain ⟨h1, h4⟩ := and2 h
      obtain ⟨h1, h3⟩ := and2 h1
      obtain ⟨h1, h2⟩ := and2 h1
      cases of_decide_eq_true h1
      exact goodI_enum xc h2 h3 (snd_E a c X W x xc tk h4)
    · cases h
  | .zip a b, c, X, W, tg, e, xc, tk, h => by
    have h : ((vTup tg).isSome && (match vCall e with | some (f, [x, y]) => decide (f = Str.ofString "zip") && bltB c f && notStar x && notStar y && chkE c a x && chkE c b y | _ => false)) = true := by unfold chkI at h; exact h
    obtain ⟨h0, h⟩ := and2 h
    obtain ⟨l, hl⟩ := Option.isSome_iff_exists.mp h0
    obtain ⟨k, p0, rfl⟩ := vTup_eq hl
    split at h
    · rename_i f x y ex
      obtain ⟨p, q, rfl⟩ := vCall_eq ex
      obtain ⟨h1, h6⟩ := and2 h
      obtain ⟨h1, h5⟩ := and2 h1
      obtain ⟨h1, h4⟩ := and2 h1
      obtain ⟨h1, h3⟩ := and2 h1
      obtain ⟨h1, h2⟩ := and2 h1
      cases of_decide_eq_true h1
      exact goodI_zip xc h2 h3 h4 (snd_E a c X W x xc tk h5) (snd_E b c X W y xc tk h6)
    · cases h
  | .glt y cs, c, X, W, tg, e, xc, tk, h => by
    have h : (match vName e with | some x => decide (x = y) && glB c x && (x != ("__debug__" : Str)) && decide ((y, cs) ∈ c.gts) | none => false) = true := by unfold chkI at h; exact h
    split at h
    · rename_i x ex
      obtain ⟨p, rfl⟩ := vName_eq ex
      obtain ⟨h1, h4⟩ := and2 h
      obtain ⟨h1, h3⟩ := and2 h1
      obtain ⟨h1, h2⟩ := and2 h1
      cases of_decide_eq_true h1
      exact goodI_glt xc h2 (ne_of_bne h3) (of_decide_eq_true h4)
    · cases h
end
end
end Pv
namespace Pv
open PySem PySem.Spec PyProof.Rows L2
/-! ## statements -/
section
variable (ρ : Nat → Fn)
def floop (t : T) (b : Ev → Res Fl) : List D → Ev → Res Fl
  | [], env => .ok .nx env
  | x :: xs, env => match bindT t x 0 env with
    | none => .bad
    | some env1 => match b env1 with
      | .ok .nx env2 => floop t b xs env2
      | .ok .cnt env2 => floop t b xs env2
      | .ok .brk env2 => .ok .nx env2
      | r => r
def wloop (c : Ev → Res Bool) (b : Ev → Res Fl) : Nat → Ev → Res Fl
  | 0, _ => .bad
  | n + 1, env => (c env).bind fun t env1 => if t then (match b env1 with
    | .ok .nx env2 => wloop c b n env2
    | .ok .cnt env2 => wloop c b n env2
    | .ok .brk env2 => .ok .nx env2
    | r => r) else .ok .nx env1
def setL (k : Nat) (d : D) (p q : D × Nat) : Option D := match d, q.1 with
  | .lst ds, .int j => if okd k p then (ixN ds.length j).map fun i => .lst (ds.set i p.1) else none
  | _, _ => none
def mergeE (ks fx : List Nat) : Nat → Ev → Ev → Option Ev
  | _, [], [] => some []
  | j, s :: r, s' :: r' => (mergeE ks fx (j + 1) r r').bind fun l => if fx.contains j then some (s :: l) else if ks.contains j then (match s' with
    | some (d, k) => if full k d then some (some (d, k) :: l) else none
    | none => some (none :: l)) else some (none :: l)
  | _, _, _ => none
def evS : S → Ev → Res Fl
  | .nil, env => .ok .nx env
  | .one a r, env => match evS a env with
    | .ok .nx env1 => evS r env1
    | r => r
  | .kill is r, env => evS r (wipeE is env)
  | .frz is r, env => evS r (frzE is env)
  | .blk _ is ks fx b r, env => match evS b (lendE is 0 env) with
    | .ok .nx e' => (match mergeE ks fx 0 env e' with
      | some env2 => evS r env2
      | none => .bad)
    | _ => .bad
  | .set i e, env => ((evP ρ e).1 env).bind fun p env1 => if i < env1.length then .ok .nx (env1.set i (some p)) else .bad
  | .unp t e, env => ((evP ρ e).1 env).bind fun p env1 => match bindT t p.1 p.2 env1 with
    | some env2 => .ok .nx env2
    | none => .bad
  | .inc i e, env => match env[i]? with
    | some (some (.int a, _)) => ((evP ρ e).1 env).bind fun p env1 => (match p.1 with
      | .int b => if i < env1.length then .ok .nx (env1.set i (some (.int (a + b), 0))) else .bad
      | _ => .bad)
    | _ => .bad
  | .ifs c a b, env => ((evP ρ c).2 env).bind fun t env1 => if t then evS a env1 else evS b env1
  | .whl n c b, env => wloop (evP ρ c).2 (evS b) n env
  | .fr t it b, env => (evI ρ it env).bind fun ds env1 => floop t (evS b) ds env1
  | .ret e, env => ((evP ρ e).1 env).bind fun p env1 => .ok (.ret p.1 p.2) env1
  | .ex e, env => ((evP ρ e).1 env).bind fun _ env1 => .ok .nx env1
  | .setix i ix e, env => if env[i]?.join.isSome then ((evP ρ e).1 env).bind fun p env1 => ((evP ρ ix).1 env1).bind fun q env2 => match env2[i]? with
    | some (some (d, k + 1)) => (match setL k d p q with
      | some d' => .ok .nx (env2.set i (some (d', k + 1)))
      | none => .bad)
    | _ => .bad else .bad
  | .setp i pp ix e, env => ((evP ρ e).1 env).bind fun p env1 => match env1[i]? with
    | some (some (d, k)) => (match evPe env1 ix with
      | some j => (match pathD env1 pp d with
        | some dl => if pp.length < k then (match setL (k - pp.length - 1) dl p (.int j, 0) with
          | some d' => .ok .nx (env1.set i (some (putP env1 pp d d', k)))
          | none => .bad) else .bad
        | none => .bad)
      | none => .bad)
    | _ => .bad
  | .brk, env => .ok .brk env
  | .cnt, env => .ok .cnt env
  | .pass, env => .ok .nx env
  | .rse, _ => .bad
end
/-! ### does it fit -/
def freeB (c : Ctx) (i : Nat) : Bool := decide (c.io ≤ i) && !(c.fx.contains i)
def swB (c : Ctx) (x : Str) (px : Pos) : Expr → Bool
  | .ListComp _ _ s p => (c.sc.names.lookup x == some .local) && (px.line == p.line) && !(s.names.any fun (n, k) => n == x && (k == .local || k == .cell))
  | _ => false
def noComp : Expr → Bool
  | .ListComp _ _ _ _ => false
  | .SetComp _ _ _ _ => false
  | .DictComp _ _ _ _ _ => false
  | _ => true
def noTuple : Expr → Bool
  | .Tuple _ _ _ => false
  | _ => true
def isLC : Expr → Bool
  | .ListComp _ _ _ _ => true
  | _ => false
def isCm : E → Bool
  | .comp _ _ _ _ _ _ => true
  | .lend _ m => isCm m
  | _ => false
def isFnK (c : Ctx) : Bool := match c.sc.kind with
  | .function => true
  | _ => false
def vAsgN : Stmt → Option (Str × Pos × Expr × Pos)
  | .Assign [.Name x px] e p => some (x, px, e, p)
  | _ => none
theorem vAsgN_eq {st : Stmt} {x px e p} (h : vAsgN st = some (x, px, e, p)) : st = .Assign [.Name x px] e p := by
  unfold vAsgN at h; split at h <;> cases h; rfl
def vAsgT : Stmt → Option (Expr × Expr × Pos)
  | .Assign [tg] e p => some (tg, e, p)
  | _ => none
theorem vAsgT_eq {st : Stmt} {tg e p} (h : vAsgT st = some (tg, e, p)) : st = .Assign [tg] e p := by
  unfold vAsgT at h; split at h <;> cases h; rfl
def vAsgS : Stmt → Option (Str × Pos × Expr × Pos × Expr × Pos)
  | .Assign [.Subscript (.Name x px) y sp] e p => some (x, px, y, sp, e, p)
  | _ => none
theorem vAsgS_eq {st : Stmt} {x px y sp e p} (h : vAsgS st = some (x, px, y, sp, e, p)) : st = .Assign [.Subscript (.Name x px) y sp] e p := by
  unfold vAsgS at h; split at h <;> cases h; rfl
def vAsgP : Stmt → Option (Expr × Expr × Expr)
  | .Assign [.Subscript x y sp] e p => some (x, y, e)
  | _ => none
theorem vAsgP_eq {st : Stmt} {x y e} (h : vAsgP st = some (x, y, e)) : ∃ sp p, st = .Assign [.Subscript x y sp] e p := by
  unfold vAsgP at h; split at h <;> cases h; exact ⟨_, _, rfl⟩
def vAug : Stmt → Option (Str × Pos × Expr × Pos)
  | .AugAssign (.Name x px) .Add e p => some (x, px, e, p)
  | _ => none
theorem vAug_eq {st : Stmt} {x px e p} (h : vAug st = some (x, px, e, p)) : st = .AugAssign (.Name x px) .Add e p := by
  unfold vAug at h; split at h <;> cases h; rfl
def vIf : Stmt → Option (Expr × List Stmt × List Stmt × Pos)
  | .If e x y p => some (e, x, y, p)
  | _ => none
theorem vIf_eq {st : Stmt} {e x y p} (h : vIf st = some (e, x, y, p)) : st = .If e x y p := by
  unfold vIf at h; split at h <;> cases h; rfl
def vWhl : Stmt → Option (Expr × List Stmt × Pos)
  | .While e x [] p => some (e, x, p)
  | _ => none
theorem vWhl_eq {st : Stmt} {e x p} (h : vWhl st = some (e, x, p)) : st = .While e x [] p := by
  unfold vWhl at h; split at h <;> cases h; rfl
def vFor : Stmt → Option (Expr × Expr × List Stmt × Pos)
  | .For tg e x [] p => some (tg, e, x, p)
  | _ => none
theorem vFor_eq {st : Stmt} {tg e x p} (h : vFor st = some (tg, e, x, p)) : st = .For tg e x [] p := by
  unfold vFor at h; split at h <;> cases h; rfl
def vRet : Stmt → Option (Option Expr × Pos)
  | .Return e p => some (e, p)
  | _ => none
theorem vRet_eq {st : Stmt} {e p} (h : vRet st = some (e, p)) : st = .Return e p := by
  unfold vRet at h; split at h <;> cases h; rfl
def vEx : Stmt → Option (Expr × Pos)
  | .Expr e p => some (e, p)
  | _ => none
theorem vEx_eq {st : Stmt} {e p} (h : vEx st = some (e, p)) : st = .Expr e p := by
  unfold vEx at h; split at h <;> cases h; rfl
def isBrk : Stmt → Bool
  | .Break _ => true
  | _ => false
def isCnt : Stmt → Bool
  | .Continue _ => true
  | _ => false
def isPass : Stmt → Bool
  | .Pass _ => true
  | _ => false
def isRse : Stmt → Bool
  | .Raise _ _ _ => true
  | _ => false
def isNoneC : E → Bool
  | .cst .none => true
  | _ => false
mutual
def chk1 (c : Ctx) : S → Stmt → Bool
  | .set i m, st => (match vAsgN st with
    | some (x, px, e, _) => (c.N[i]? == some x) && freeB c i && locB c x && isFnK c && (noComp e || isLC e) && (!(swB c x px e) || isCm m) && chkE c m e
    | none => false)
  | .unp t m, st => (match vAsgT st with
    | some (tg, e, _) => (vTup tg).isSome && noTuple e && ((tIdx t).all fun i => freeB c i) && chkT c t tg && chkE c m e
    | none => false)
  | .inc i m, st => (match vAug st with
    | some (x, _, e, _) => (c.N[i]? == some x) && freeB c i && locB c x && chkE c m e
    | none => false)
  | .ifs k a b, st => (match vIf st with
    | some (e, x, y, _) => chkE c k e && chkS c a x && chkS c b y
    | none => false)
  | .whl _ k b, st => (match vWhl st with
    | some (e, x, _) => chkE c k e && chkS c b x
    | none => false)
  | .fr t it b, st => (match vFor st with
    | some (tg, e, x, _) => foldOk e && ((tIdx t).all fun i => freeB c i) && chkI c it tg e && chkT c t tg && chkS c b x
    | none => false)
  | .ret m, st => (match vRet st with
    | some (some e, _) => chkE c m e
    | some (none, _) => isNoneC m
    | none => false)
  | .ex m, st => (match vEx st with
    | some (e, _) => noComp e && chkE c m e
    | none => false)
  | .setix i ix m, st => (match vAsgS st with
    | some (x, _, y, _, e, _) => varB c i x && noSl y && chkE c ix y && chkE c m e
    | none => false)
  | .setp i pp ix m, st => (match vAsgP st with
    | some (x, y, e) => chkP c i pp x && noSl y && chkPe c ix y && chkE c m e
    | none => false)
  | .brk, st => isBrk st
  | .cnt, st => isCnt st
  | .pass, st => isPass st
  | .rse, st => isRse st
  | _, _ => false
def chkS (c : Ctx) : S → List Stmt → Bool
  | .nil, [] => true
  | .one a r, st :: sts => chk1 c a st && chkS c r sts
  | .kill _ r, sts => chkS c r sts
  | .frz _ r, sts => chkS c r sts
  | .blk n _ _ fx b r, sts => chkS { c with fx := fx ++ c.fx } b (sts.take n) && chkS c r (sts.drop n)
  | _, _ => false
end
end Pv
namespace Pv
open PySem PySem.Spec PyProof.Rows L2
section
variable {ρ : Nat → Fn} {c : Ctx} {X : Cx} {K : Fg} {W : WX} {G G1 G2 G' H H1 H2 H' : Hp} {f f0 f1 f2 : Fo} {σ : L2.St} {Q : VK} {env env1 : Ev} {bs bs1 bs2 : List Addr} {D : Ends}
def SS1 (X : Cx) (st : Stmt) : TS := fun D σ H => ∀ (pins : List (Addr × Obj)) (s : Shared), Inv X pins σ H s → wpAny (model X.prog X.w) X.A (exec st X.env) (SP X pins D) X.xe s
theorem ps_sem {st : Stmt} : PS X st (SS1 X st) := ⟨fun pins s σ H D I h => h pins s I⟩
theorem SS1.of {t : TS} {st : Stmt} (h : PS X st t) (q : t D σ H) : SS1 X st D σ H := fun pins s I => h.run pins s σ H D I q
/-- the slots handed in to be changed bear what they bore -/
def Lo (io : Nat) (fx : List Nat) (σ0 σ : L2.St) : Prop := ∀ i, (i < io ∨ i ∈ fx) → σ[i]? = σ0[i]?
structure RelS (io : Nat) (fx : List Nat) (σ0 : L2.St) (K : Fg) (G : Hp) (env : Ev) (σ : L2.St) (H : Hp) (f : Fo) : Prop where
  r : Rel K G env σ H f
  lo : Lo io fx σ0 σ
theorem freeB_io {c : Ctx} {i : Nat} (h : freeB c i = true) : ∀ j, (j < c.io ∨ j ∈ c.fx) → j ≠ i := by
  obtain ⟨h1, h2⟩ := and2 h
  have h1 := of_decide_eq_true h1
  have h2 : i ∉ c.fx := by simpa using h2
  intro j hj e
  subst e
  rcases hj with hj | hj
  · omega
  · exact h2 hj
theorem Lo.set {c : Ctx} {i : Nat} {σ0 σ : L2.St} {v : Option V} (h : Lo c.io c.fx σ0 σ) (hi : freeB c i = true) : Lo c.io c.fx σ0 (σ.set i v) := fun j hj => by
  rw [List.getElem?_set_ne (Ne.symm (freeB_io hi j hj))]; exact h j hj
theorem Lo.same {c : Ctx} {is : List Nat} {σ0 σ σ' : L2.St} (h : Lo c.io c.fx σ0 σ) (s : SameBut is σ σ') (hi : (is.all fun i => freeB c i) = true) : Lo c.io c.fx σ0 σ' := fun j hj => by
  rw [s.2 j fun z => freeB_io (List.all_eq_true.mp hi j z) j hj rfl]; exact h j hj
def PostS (io : Nat) (fx : List Nat) (σ0 : L2.St) (K : Fg) (W : WX) (f : Fo) (G H : Hp) (r : Res Fl) (D : Ends) : Prop := match r with
  | .ok .nx env' => ∀ σ' G' H' f', RelS io fx σ0 K G' env' σ' H' f' → Step f G H f' [] G' H' → D.nx σ' H'
  | .ok .brk env' => ∀ σ' G' H' f', RelS io fx σ0 K G' env' σ' H' f' → Step f G H f' [] G' H' → D.bk σ' H'
  | .ok .cnt env' => ∀ σ' G' H' f', RelS io fx σ0 K G' env' σ' H' f' → Step f G H f' [] G' H' → D.ct σ' H'
  | .ok (.ret d k) env' => ∀ v σ' G' H' f' bs, RelS io fx σ0 K G' env' σ' H' f' → Tmp K G' H' f' k v d bs → Step f G H f' bs G' H' → D.rt v H'
  | .exc x env' => ∀ σ', Lo io fx σ0 σ' → ExcP K W σ' f G H x env'
  | .bad => False
variable {io : Nat} {fx : List Nat} {σ0 : L2.St}
theorem PostS.shift {r : Res Fl} (S : Step f G H f1 bs G1 H1) (h : PostS io fx σ0 K W f G H r D) : PostS io fx σ0 K W f1 G1 H1 r D := by
  cases r with
  | ok a e => cases a with
    | nx => exact fun σ' G' H' f' R S' => h σ' G' H' f' R (S.then S')
    | brk => exact fun σ' G' H' f' R S' => h σ' G' H' f' R (S.then S')
    | cnt => exact fun σ' G' H' f' R S' => h σ' G' H' f' R (S.then S')
    | ret d k => exact fun v σ' G' H' f' bs R T S' => h v σ' G' H' f' bs R T (S.then S')
  | exc x e => exact fun σ' l => ExcP.step (h σ' l) S
  | bad => exact h
def Good1 (ρ : Nat → Fn) (c : Ctx) (X : Cx) (W : WX) (m : S) (st : Stmt) : Prop :=
  ∀ (env : Ev) (σ0 σ : L2.St) (G H : Hp) (f : Fo), RelS c.io c.fx σ0 X.K G env σ H f → ∀ D, PostS c.io c.fx σ0 X.K W f G H (evS ρ m env) D → SS1 X st D σ H
def GoodS (ρ : Nat → Fn) (c : Ctx) (X : Cx) (W : WX) (m : S) (sts : List Stmt) : Prop :=
  ∀ (env : Ev) (σ0 σ : L2.St) (G H : Hp) (f : Fo), RelS c.io c.fx σ0 X.K G env σ H f → ∀ D, PostS c.io c.fx σ0 X.K W f G H (evS ρ m env) D → SSv X sts D σ H
theorem goodS_nil : GoodS ρ c X W .nil [] := fun env σ0 σ G H f R D q => SSv.of pss_nil (q σ G H f R Step.refl)
theorem goodS_one {a r : S} {st : Stmt} {sts : List Stmt} (h1 : Good1 ρ c X W a st) (h2 : GoodS ρ c X W r sts) : GoodS ρ c X W (.one a r) (st :: sts) := by
  intro env σ0 σ G H f R D q
  refine SSv.of (pss_cons ps_sem pss_sem) (h1 env σ0 σ G H f R _ ?_)
  have q : PostS c.io c.fx σ0 X.K W f G H (match evS ρ a env with
    | .ok .nx env1 => evS ρ r env1
    | r => r) D := q
  generalize evS ρ a env = rr at q ⊢
  cases rr with
  | bad => exact q
  | exc x e => exact q
  | ok fl e => cases fl with
    | nx => exact fun σ' G' H' f' R' S' => h2 e σ0 σ' G' H' f' R' D (PostS.shift S' q)
    | brk => exact q
    | cnt => exact q
    | ret d k => exact q
theorem Rel.wipe : ∀ {is : List Nat} {env : Ev} {f : Fo}, Rel K G env σ H f → Rel K G (wipeE is env) σ H f := by
  intro is env f R
  refine ⟨by rw [wipeE_length]; exact R.len, fun i d k e => R.slot i d k (wipeE_get e).1, R.nd, R.dj, R.gn, R.ht, R.sub⟩
theorem goodS_kill {is : List Nat} {r : S} {sts : List Stmt} (h : GoodS ρ c X W r sts) : GoodS ρ c X W (.kill is r) sts := fun env σ0 σ G H f R D q => h _ σ0 σ G H f ⟨R.r.wipe, R.lo⟩ D q
theorem frz_rel : ∀ {is : List Nat} {env : Ev} {G : Hp} {f : Fo}, Rel K G env σ H f → ∃ G' f', Rel K G' (frzE is env) σ H f' ∧ Step f G H f' [] G' H
  | [], env, G, f, R => ⟨G, f, R, Step.refl⟩
  | i :: r, env, G, f, R => by
    show ∃ G' f', Rel K G' (frzE r (match env[i]? with
      | some (some (d, _)) => env.set i (some (d, 0))
      | _ => env)) σ H f' ∧ Step f G H f' [] G' H
    split
    · rename_i d k e
      obtain ⟨G', f', h1, h2⟩ := frz_rel (is := r) (R.frz e)
      exact ⟨G', f', h1, ((Step.frz fun a h => R.gn i a h).then h2)⟩
    · exact frz_rel (is := r) R
theorem goodS_frz {is : List Nat} {r : S} {sts : List Stmt} (h : GoodS ρ c X W r sts) : GoodS ρ c X W (.frz is r) sts := fun env σ0 σ G H f R D q => by
  obtain ⟨G', f', h1, h2⟩ := frz_rel (is := is) R.r
  exact h _ σ0 σ G' H f' ⟨h1, R.lo⟩ D (PostS.shift h2 q)
theorem sw_no {e : Expr} {t : Option Expr} {l : Nat} {env : Env} (h : noComp e = true) : swapsWith e t l env = pure false := by
  cases e <;> first | rfl | cases h
theorem sw_eq (xc : XC ρ c X) (hk : isFnK c = true) {e : Expr} {x : Str} {px : Pos} {l : Nat} (h : (noComp e || isLC e) = true) : swapsWith e (some (.Name x px)) l X.env = pure (swB c x px e) := by
  rw [Bool.or_eq_true] at h
  rcases h with h | h
  · rw [sw_no h]
    cases e <;> first | rfl | cases h
  · cases e with
    | ListComp a b s p =>
      have ks : X.env.scope.kind = .function := by
        unfold isFnK at hk
        rw [xc.sc]
        split at hk
        · assumption
        · cases hk
      have hb : X.env.blockKind = .function := by unfold Env.blockKind; rw [ks]; rfl
      have hx : X.env.kindOf x = c.sc.names.lookup x := by rw [← xc.sc]; rfl
      show (pure (X.env.blockKind == .function && X.env.kindOf x == some .local && px.line == p.line && !(s.names.any fun (n, k) => n == x && (k == .local || k == .cell))) : Sem Bool) = pure ((c.sc.names.lookup x == some .local) && (px.line == p.line) && !(s.names.any fun (n, k) => n == x && (k == .local || k == .cell)))
      rw [hb, hx]
      rfl
    | _ => cases h
theorem set_fin {i : Nat} {p : Pv.D × Nat} {v : V} (lo : Lo c.io c.fx σ0 σ) (hi : freeB c i = true) (R : Rel K G1 env1 σ H1 f1) (T : Tmp K G1 H1 f1 p.2 v p.1 bs1) (S : Step f G H f1 bs1 G1 H1) (q : PostS c.io c.fx σ0 K W f G H (if i < env1.length then .ok .nx (env1.set i (some p)) else .bad) D) : D.nx (σ.set i (some v)) H1 := by
  split at q
  · exact q _ G1 H1 _ ⟨R.set T, lo.set hi⟩ (S.set fun a h => h)
  · exact q.elim
theorem comp_set (xc : XC ρ c X) (tk : Takes X W) {elt tg iter : Expr} {ifs : List Expr} {scope : Scope} {p : Pos} : ∀ {m : E} {env : Ev} {σ : L2.St} {G H : Hp} {f : Fo} {Q : VK}, isCm m = true → chkE c m (.ListComp elt [⟨tg, iter, ifs, 0⟩] scope p) = true → Rel X.K G env σ H f → PostE X.K W σ f G H ((evP ρ m).1 env) Q →
    ∃ own : List (Str × Nat), blkC c.N c.sc scope own = true ∧ foldOk iter = true ∧ tLc (SIv X tg iter) (gB X scope tg) (ttB X scope ifs) (teB X scope elt) (own.map (·.2)) σ H Q
  | .comp n own t it k m, env, σ, G, H, f, Q, _, h, R, q => by
    have h9 : (match ownNames c own with
        | some on => blkC c.N c.sc scope on && ((tIdx t).all fun i => own.contains i) && foldOk iter && chkI c it tg iter && chkT (c.blk scope) t tg && chkOT (c.blk scope) k ifs && chkE (c.blk scope) m elt
        | none => false) = true := by unfold chkE at h; exact h
    split at h9
    · rename_i on hon
      obtain ⟨h1, h7⟩ := and2 h9
      obtain ⟨h1, h6⟩ := and2 h1
      obtain ⟨h1, h5⟩ := and2 h1
      obtain ⟨h1, h4⟩ := and2 h1
      obtain ⟨h1, h3⟩ := and2 h1
      obtain ⟨h1, h2⟩ := and2 h1
      exact ⟨on, h1, h3, comp_core xc hon h2 (snd_I it c X W tg iter xc tk h4) h5 (fun X' xc' => snd_OT k (c.blk scope) X' _ ifs xc' takes0 h6) (fun X' xc' => snd_E m (c.blk scope) X' _ elt xc' takes0 h7) R q⟩
    · cases h9
  | .lend is m, env, σ, G, H, f, Q, hm, h, R, q => comp_set xc tk (m := m) (by unfold isCm at hm; exact hm) (by unfold chkE at h; exact h) (R.lendR is) (lend_postE R q)
theorem good1_set (xc : XC ρ c X) (tk : Takes X W) {i : Nat} {m : E} {x : Str} {px pos : Pos} {e : Expr} (hi : c.N[i]? = some x) (hio : freeB c i = true) (hl : locB c x = true) (hk : isFnK c = true) (hn : (noComp e || isLC e) = true) (hs : (!(swB c x px e) || isCm m) = true) (hm : chkE c m e = true) :
    Good1 ρ c X W (.set i m) (.Assign [.Name x px] e pos) := by
  intro env σ0 σ G H f R D q
  obtain ⟨l1, l2⟩ := xc.loc hl
  have sw := sw_eq (px := px) (l := pos.line) (x := x) xc hk hn
  have q : PostS c.io c.fx σ0 X.K W f G H (((evP ρ m).1 env).bind fun p env1 => if i < env1.length then .ok .nx (env1.set i (some p)) else .bad) D := q
  have q1 : PostE X.K W σ f G H ((evP ρ m).1 env) (fun v H1 => D.nx (σ.set i (some v)) H1) := bndE (P := fun r => PostS c.io c.fx σ0 X.K W f G H r D) q (fun _ _ h => h σ R.lo) id fun p env1 v G1 H1 f1 bs1 R1 T1 S1 q => set_fin R.lo hio R1 T1 S1 q
  by_cases hb : swB c x px e = true
  · rw [hb] at sw hs
    have hcm : isCm m = true := hs
    cases e with
    | ListComp elt gens scope p =>
      -- one clause
      have hg : ∃ tg iter ifs, gens = [⟨tg, iter, ifs, 0⟩] := by
        have aux : ∀ m : E, isCm m = true → chkE c m (.ListComp elt gens scope p) = true → ∃ tg iter ifs, gens = [⟨tg, iter, ifs, 0⟩] := by
          intro m hcm hm
          induction m using E.rec (motive_2 := fun _ => True) (motive_3 := fun _ => True) (motive_4 := fun _ => True) with
          | comp n own t it k m _ _ _ =>
            have h9 : (match vComp (.ListComp elt gens scope p) with
              | some (elt, tg, iter, ifs, scope) => (match ownNames c own with
                | some on => blkC c.N c.sc scope on && ((tIdx t).all fun i => own.contains i) && foldOk iter && chkI c it tg iter && chkT (c.blk scope) t tg && chkOT (c.blk scope) k ifs && chkE (c.blk scope) m elt
                | none => false)
              | none => false) = true := by unfold chkE at hm; exact hm
            split at h9
            · rename_i a b c' d s ex
              obtain ⟨p', ep⟩ := vComp_eq ex
              cases ep
              exact ⟨_, _, _, rfl⟩
            · cases h9
          | lend is m ih => exact ih (by unfold isCm at hcm; exact hcm) (by unfold chkE at hm; exact hm)
          | _ => first | trivial | (unfold isCm at hcm; cases hcm)
        exact aux m hcm hm
      obtain ⟨tg, iter, ifs, rfl⟩ := hg
      obtain ⟨own, hbk, hfo, core⟩ := comp_set xc tk hcm hm R.r q1
      have ok : BlkOk X.N X.env.scope scope own := by rw [xc.n, xc.sc]; exact blkOk_by hbk
      have hs : ∀ x, foldedSetIterable iter X.env x = pure x := fun x => by
        cases iter <;> first | rfl | cases hfo
      have hyl : X.env.scope.names.lookup x = some .local := by
        have hb' : ((c.sc.names.lookup x == some .local) && (px.line == p.line) && !(scope.names.any fun (n, k) => n == x && (k == .local || k == .cell))) = true := hb
        rw [xc.sc]
        exact beq_iff_eq.mp (and2 (and2 hb').1).1
      exact SS1.of (ps_setLc (wi := SIv X tg iter) (g := gB X scope tg) (tt := ttB X scope ifs) (te := teB X scope elt) xc.calm xc.nd (by rw [xc.n]; exact hi) hyl sw pi_sem ok
        (fun s H C cl fp => ⟨fun pins s' σ H' v u Q I r h => h s H C cl fp pins s' u I r⟩) (fun s H C cl fp => ⟨fun pins s' σ H' Q I h => h s H C cl fp pins s' I⟩)
        (fun s H C cl fp => ⟨fun pins s' σ H' Q I h => h s H C cl fp pins s' I⟩) hs) core
    | _ => cases hb
  · have hb : swB c x px e = false := by simpa using hb
    rw [hb] at sw
    exact SS1.of (ps_set xc.nd (by rw [xc.n]; exact hi) l1 pe_sem sw l2) ((snd_E m c X W e xc tk hm env σ G H f R.r).1 _ q1)
theorem good1_unp (xc : XC ρ c X) (tk : Takes X W) {t : T} {m : E} {tg e : Expr} {pos : Pos} (ht : (vTup tg).isSome = true) (hn : noTuple e = true) (hio : ((tIdx t).all fun i => freeB c i) = true) (hm : chkE c m e = true) (hc : chkT c t tg = true) : Good1 ρ c X W (.unp t m) (.Assign [tg] e pos) := by
  intro env σ0 σ G H f R D q
  obtain ⟨l, hl⟩ := Option.isSome_iff_exists.mp ht
  obtain ⟨k, p0, rfl⟩ := vTup_eq hl
  refine SS1.of (ps_asg pe_sem pg_sem (by cases e <;> rfl) (by cases e <;> first | rfl | cases hn)) ?_
  have q : PostS c.io c.fx σ0 X.K W f G H (((evP ρ m).1 env).bind fun p env1 => match bindT t p.1 p.2 env1 with
    | some env2 => .ok .nx env2
    | none => .bad) D := q
  refine (snd_E m c X W e xc tk hm env σ G H f R.r).1 _ (bndE (P := fun r => PostS c.io c.fx σ0 X.K W f G H r D) q (fun _ _ h => h σ R.lo) id fun p env1 v G1 H1 f1 bs1 R1 T1 S1 q => ?_)
  split at q
  · rename_i env2 e2
    exact good_T xc hc R1 rfl T1 e2 fun σ' f' R' hf sm => q σ' G1 H1 f' ⟨R', R.lo.same sm hio⟩ (bind_step S1 hf)
  · exact q.elim
theorem good1_inc (xc : XC ρ c X) (tk : Takes X W) {i : Nat} {m : E} {x : Str} {px pos : Pos} {e : Expr} (hi : c.N[i]? = some x) (hio : freeB c i = true) (hl : locB c x = true) (hm : chkE c m e = true) : Good1 ρ c X W (.inc i m) (.AugAssign (.Name x px) .Add e pos) := by
  intro env σ0 σ G H f R D q
  obtain ⟨l1, l2⟩ := xc.loc hl
  refine SS1.of (ps_aug xc.nd (by rw [xc.n]; exact hi) l1 pe_sem ip_add l2) ?_
  have q : PostS c.io c.fx σ0 X.K W f G H (match env[i]? with
    | some (some (.int a, _)) => ((evP ρ m).1 env).bind fun p env1 => (match p.1 with
      | .int b => if i < env1.length then .ok .nx (env1.set i (some (.int (a + b), 0))) else .bad
      | _ => .bad)
    | _ => .bad) D := q
  split at q
  · rename_i a k ei
    obtain ⟨v, hv, o⟩ := R.r.slot i _ k ei
    obtain ⟨r, _⟩ := o.flat (G' := G) rfl
    cases r
    refine ⟨.int a, hv, ?_⟩
    refine (snd_E m c X W e xc tk hm env σ G H f R.r).1 _ (bndE (P := fun r => PostS c.io c.fx σ0 X.K W f G H r D) q (fun _ _ h => h σ R.lo) id fun p env1 v G1 H1 f1 bs1 R1 T1 S1 q => ?_)
    obtain ⟨d, kd⟩ := p
    cases d with
    | int b =>
      obtain ⟨rfl, _⟩ := int_val T1 rfl
      have q : PostS c.io c.fx σ0 X.K W f G H (if i < env1.length then .ok .nx (env1.set i (some (.int (a + b), 0))) else .bad) D := q
      exact ⟨a, b, rfl, rfl, set_fin (p := (.int (a + b), 0)) R.lo hio R1 (Tmp.of_rep (f := f1) (.int _)) S1.nil q⟩
    | _ => exact q.elim
  · exact q.elim
theorem good1_ifs (xc : XC ρ c X) (tk : Takes X W) {k : E} {a b : S} {e : Expr} {x y : List Stmt} {pos : Pos} (hk : chkE c k e = true) (ha : GoodS ρ c X W a x) (hb : GoodS ρ c X W b y) : Good1 ρ c X W (.ifs k a b) (.If e x y pos) := by
  intro env σ0 σ G H f R D q
  refine SS1.of (ps_if pt_sem pss_sem pss_sem) ?_
  have q : PostS c.io c.fx σ0 X.K W f G H (((evP ρ k).2 env).bind fun t env1 => if t then evS ρ a env1 else evS ρ b env1) D := q
  refine (snd_E k c X W e xc tk hk env σ G H f R.r).2 _ (bndT (P := fun r => PostS c.io c.fx σ0 X.K W f G H r D) q (fun _ _ h => h σ R.lo) id fun t env1 G1 H1 f1 R1 S1 q => ?_)
  cases t with
  | true =>
    rw [if_pos rfl] at q ⊢
    exact ha env1 σ0 σ G1 H1 f1 ⟨R1, R.lo⟩ D (PostS.shift S1 q)
  | false =>
    rw [if_neg Bool.false_ne_true] at q ⊢
    exact hb env1 σ0 σ G1 H1 f1 ⟨R1, R.lo⟩ D (PostS.shift S1 q)
theorem good1_whl (xc : XC ρ c X) (tk : Takes X W) (hp : PassesOwn (model X.prog X.w) X.A X.env X.xe) {n : Nat} {k : E} {b : S} {e : Expr} {x : List Stmt} {pos : Pos} (hk : chkE c k e = true) (hb : GoodS ρ c X W b x) : Good1 ρ c X W (.whl n k b) (.While e x [] pos) := by
  intro env σ0 σ G H f R D q
  refine SS1.of (ps_while hp pt_sem pss_sem) ?_
  have q : PostS c.io c.fx σ0 X.K W f G H (wloop (evP ρ k).2 (evS ρ b) n env) D := q
  refine ⟨fun m σ' H' => ∃ env' G' f', RelS c.io c.fx σ0 X.K G' env' σ' H' f' ∧ Step f G H f' [] G' H' ∧ PostS c.io c.fx σ0 X.K W f G H (wloop (evP ρ k).2 (evS ρ b) m env') D, ⟨n, env, G, f, R, Step.refl, q⟩, ?_⟩
  rintro m σ' H' ⟨env', G', f', R', S', q⟩
  cases m with
  | zero => exact q.elim
  | succ m =>
    have q : PostS c.io c.fx σ0 X.K W f G H (((evP ρ k).2 env').bind fun t env1 => if t then (match evS ρ b env1 with
      | .ok .nx env2 => wloop (evP ρ k).2 (evS ρ b) m env2
      | .ok .cnt env2 => wloop (evP ρ k).2 (evS ρ b) m env2
      | .ok .brk env2 => .ok .nx env2
      | r => r) else .ok .nx env1) D := q
    refine (snd_E k c X W e xc tk hk env' σ' G' H' f' R'.r).2 _ (bndT (P := fun r => PostS c.io c.fx σ0 X.K W f G H r D) q (fun _ _ h => ExcP.step (h σ' R'.lo) S') id fun t env1 G1 H1 f1 R1 S1 q => ?_)
    have S2 := S'.then S1
    cases t with
    | false =>
      rw [if_neg Bool.false_ne_true] at q ⊢
      exact q σ' G1 H1 f1 ⟨R1, R'.lo⟩ S2
    | true =>
      rw [if_pos rfl] at q ⊢
      refine ⟨fun σ2 H2 => ∃ env2 G2 f2, RelS c.io c.fx σ0 X.K G2 env2 σ2 H2 f2 ∧ Step f G H f2 [] G2 H2 ∧ PostS c.io c.fx σ0 X.K W f G H (wloop (evP ρ k).2 (evS ρ b) m env2) D, fun σ2 H2 h => ⟨m, Nat.lt_succ_self m, h⟩, ?_⟩
      refine hb env1 σ0 σ' G1 H1 f1 ⟨R1, R'.lo⟩ _ ?_
      generalize evS ρ b env1 = rr at q ⊢
      cases rr with
      | bad => exact q.elim
      | exc x e => exact fun σ2 l2 => ExcP.step (q σ2 l2) S2
      | ok fl e2 => cases fl with
        | nx => exact fun σ2 G2 H2 f2 R2 S3 => ⟨e2, G2, f2, R2, S2.then S3, q⟩
        | cnt => exact fun σ2 G2 H2 f2 R2 S3 => ⟨e2, G2, f2, R2, S2.then S3, q⟩
        | brk => exact fun σ2 G2 H2 f2 R2 S3 => q σ2 G2 H2 f2 R2 (S2.then S3)
        | ret d kk => exact fun v σ2 G2 H2 f2 bs R2 T2 S3 => q v σ2 G2 H2 f2 bs R2 T2 (S2.then S3)
theorem good1_fr (xc : XC ρ c X) (hp : PassesOwn (model X.prog X.w) X.A X.env X.xe) {t : T} {it : I} {b : S} {tg e : Expr} {x : List Stmt} {pos : Pos} (hfo : foldOk e = true) (hio : ((tIdx t).all fun i => freeB c i) = true) (hi : GoodI ρ c X W it tg e) (ht : chkT c t tg = true) (hb : GoodS ρ c X W b x) : Good1 ρ c X W (.fr t it b) (.For tg e x [] pos) := by
  intro env σ0 σ G H f R D q
  refine SS1.of (ps_for hp xc.calm pi_sem pg_sem pss_sem (fun x => by cases e <;> first | rfl | cases hfo)) ?_
  have q : PostS c.io c.fx σ0 X.K W f G H ((evI ρ it env).bind fun ds env1 => floop t (evS ρ b) ds env1) D := q
  refine hi env σ G H f R.r _ (bndI (P := fun r => PostS c.io c.fx σ0 X.K W f G H r D) q (fun _ _ h => h σ R.lo) id fun ds env1 J G1 H1 f1 R1 S1 IO hz q => ?_)
  refine ⟨fun i m σ' H' => m = ds.length - i ∧ i ≤ ds.length ∧ ∃ env' G' f', RelS c.io c.fx σ0 X.K G' env' σ' H' f' ∧ Step f G H f' [] G' H' ∧ Le G1 G' ∧ PostS c.io c.fx σ0 X.K W f G H (floop t (evS ρ b) (ds.drop i) env') D, ⟨ds.length, by omega, Nat.zero_le _, env1, G1, f1, ⟨R1, R.lo⟩, S1, .refl _, q⟩, ?_⟩
  rintro i m σ' H' ⟨rfl, hle, env', G', f', R', S', lG, q⟩
  by_cases hlt : i < ds.length
  · have hd : ds[i]? = some ds[i] := by simp [hlt]
    obtain ⟨go, item⟩ := IO.go i ds[i] G' H' hd lG R'.r.sub
    refine .inr ⟨go, fun σ2 H2 => ∃ env2 G2 f2, RelS c.io c.fx σ0 X.K G2 env2 σ2 H2 f2 ∧ Step f G H f2 [] G2 H2 ∧ Le G1 G2 ∧ PostS c.io c.fx σ0 X.K W f G H (floop t (evS ρ b) (ds.drop (i + 1)) env2) D, fun σ2 H2 h => ⟨ds.length - (i + 1), by omega, rfl, hlt, h⟩, fun x H2 hy => ?_⟩
    obtain ⟨G2, nw, rx⟩ := item x H2 hy
    have R2 := R'.r.new nw
    have S2 := S'.then (Step.new nw)
    rw [List.drop_eq_getElem_cons hlt] at q
    have q : PostS c.io c.fx σ0 X.K W f G H (match bindT t ds[i] 0 env' with
      | none => .bad
      | some env1 => match evS ρ b env1 with
        | .ok .nx env2 => floop t (evS ρ b) (ds.drop (i + 1)) env2
        | .ok .cnt env2 => floop t (evS ρ b) (ds.drop (i + 1)) env2
        | .ok .brk env2 => .ok .nx env2
        | r => r) D := q
    cases hbt : bindT t ds[i] 0 env' with
    | none => rw [hbt] at q; exact q.elim
    | some envt =>
      rw [hbt] at q
      refine good_T xc ht R2 rfl (Tmp.of_rep rx) hbt fun σ3 f3 R3 hf3 sm => ?_
      have S3 := bind_step S2 hf3
      refine hb envt σ0 σ3 G2 H2 f3 ⟨R3, R'.lo.same sm hio⟩ _ ?_
      have q : PostS c.io c.fx σ0 X.K W f G H (match evS ρ b envt with
        | .ok .nx env2 => floop t (evS ρ b) (ds.drop (i + 1)) env2
        | .ok .cnt env2 => floop t (evS ρ b) (ds.drop (i + 1)) env2
        | .ok .brk env2 => .ok .nx env2
        | r => r) D := q
      generalize evS ρ b envt = rr at q ⊢
      cases rr with
      | bad => exact q.elim
      | exc x e => exact fun σ2 l2 => ExcP.step (q σ2 l2) S3
      | ok fl e2 => cases fl with
        | nx => exact fun σ4 G4 H4 f4 R4 S4 => ⟨e2, G4, f4, R4, S3.then S4, lG.trans (nw.grow.trans S4.grow), q⟩
        | cnt => exact fun σ4 G4 H4 f4 R4 S4 => ⟨e2, G4, f4, R4, S3.then S4, lG.trans (nw.grow.trans S4.grow), q⟩
        | brk => exact fun σ4 G4 H4 f4 R4 S4 => q σ4 G4 H4 f4 R4 (S3.then S4)
        | ret d kk => exact fun v σ4 G4 H4 f4 bs R4 T4 S4 => q v σ4 G4 H4 f4 bs R4 T4 (S3.then S4)
  · have e : i = ds.length := by omega
    subst e
    rw [List.drop_length] at q
    exact .inl ⟨IO.stop _ G' H' (Nat.le_refl _) lG R'.r.sub, q σ' G' H' f' R' S'⟩
theorem good1_ret (xc : XC ρ c X) (tk : Takes X W) {m : E} {e : Expr} {pos : Pos} (hm : chkE c m e = true) : Good1 ρ c X W (.ret m) (.Return (some e) pos) := by
  intro env σ0 σ G H f R D q
  refine SS1.of (ps_ret pe_sem) ?_
  exact (snd_E m c X W e xc tk hm env σ G H f R.r).1 _ (bndE (P := fun r => PostS c.io c.fx σ0 X.K W f G H r D) (g := fun (p : Pv.D × Nat) env1 => Res.ok (Fl.ret p.1 p.2) env1) q (fun _ _ h => h σ R.lo) id fun p env1 v G1 H1 f1 bs1 R1 T1 S1 q => q v σ G1 H1 f1 bs1 ⟨R1, R.lo⟩ T1 S1)
theorem good1_retN {m : E} {pos : Pos} (hm : isNoneC m = true) : Good1 ρ c X W (.ret m) (.Return none pos) := by
  intro env σ0 σ G H f R D q
  unfold isNoneC at hm
  split at hm
  · exact SS1.of ps_retN (q .non σ G H f [] R (Tmp.of_rep .non) Step.refl)
  · cases hm
theorem good1_ex (xc : XC ρ c X) (tk : Takes X W) {m : E} {e : Expr} {pos : Pos} (hn : noComp e = true) (hm : chkE c m e = true) : Good1 ρ c X W (.ex m) (.Expr e pos) := by
  intro env σ0 σ G H f R D q
  refine SS1.of (ps_expr pe_sem (sw_no hn)) ?_
  exact (snd_E m c X W e xc tk hm env σ G H f R.r).1 _ (bndE (P := fun r => PostS c.io c.fx σ0 X.K W f G H r D) (g := fun (_ : Pv.D × Nat) env1 => Res.ok Fl.nx env1) q (fun _ _ h => h σ R.lo) id fun p env1 v G1 H1 f1 bs1 R1 T1 S1 q => q σ G1 H1 f1 ⟨R1, R.lo⟩ S1.nil)
theorem execs_app (l2 : List Stmt) (env : Env) : ∀ l1 : List Stmt, execs (l1 ++ l2) env = (execs l1 env >>= fun f => match f with | .next => execs l2 env | f => pure f)
  | [] => by
    show execs l2 env = (pure Flow.next >>= fun f => match f with | .next => execs l2 env | f => pure f)
    rw [pure_bind]
  | st :: l1 => by
    rw [List.cons_append, PySem.execs_cons, PySem.execs_cons, bind_assoc]
    congr 1
    funext f
    cases f with
    | next => exact execs_app l2 env l1
    | _ => simp only [pure_bind]
theorem ssv_app {l1 l2 : List Stmt} (h : SSv X l1 { D with nx := SSv X l2 D } σ H) : SSv X (l1 ++ l2) D σ H := by
  intro pins s I
  rw [execs_app]
  refine wpAny_bind (thn (h pins s I) fun f s1 q => ?_)
  cases f with
  | next =>
    obtain ⟨σ', H', I', q⟩ := q
    exact q pins s1 I'
  | ret v => exact wpAny_pure q
  | brk => exact wpAny_pure q
  | cont => exact wpAny_pure q
theorem merge_get {ks fx : List Nat} : ∀ {j : Nat} {env e' env2 : Ev}, mergeE ks fx j env e' = some env2 → (env2.length = env.length ∧ e'.length = env.length) ∧ ∀ (i : Nat) (d : Pv.D) (k : Nat), env2[i]? = some (some (d, k)) → (j + i ∈ fx ∧ env[i]? = some (some (d, k))) ∨ (j + i ∉ fx ∧ j + i ∈ ks ∧ e'[i]? = some (some (d, k)) ∧ full k d = true)
  | _, [], [], env2, h => by
    have h : some [] = some env2 := h
    cases h
    exact ⟨⟨rfl, rfl⟩, fun i d k e => by simp at e⟩
  | j, s :: r, s' :: r', env2, h0 => by
    have h9 : (mergeE ks fx (j + 1) r r').bind (fun l => if fx.contains j then some (s :: l) else if ks.contains j then (match (generalizing := false) s' with
      | some (d, k) => if full k d then some (some (d, k) :: l) else none
      | none => some (none :: l)) else some (none :: l)) = some env2 := h0
    obtain ⟨l, hl, h⟩ := Option.bind_eq_some_iff.mp h9
    obtain ⟨⟨h1, h1'⟩, h2⟩ := merge_get hl
    have tail : ∀ (i : Nat) (d : Pv.D) (k : Nat), l[i]? = some (some (d, k)) → (j + (i + 1) ∈ fx ∧ (s :: r)[i + 1]? = some (some (d, k))) ∨ (j + (i + 1) ∉ fx ∧ j + (i + 1) ∈ ks ∧ (s' :: r')[i + 1]? = some (some (d, k)) ∧ full k d = true) := fun i d k e => by
      have := h2 i d k e
      rw [show j + 1 + i = j + (i + 1) by omega] at this
      simpa using this
    split at h
    · rename_i hf
      cases h
      refine ⟨⟨congrArg (· + 1) h1, congrArg (· + 1) h1'⟩, fun i d k e => ?_⟩
      cases i with
      | zero => exact .inl ⟨by simpa using hf, by simpa using e⟩
      | succ i => exact tail i d k (by simpa using e)
    · rename_i hf
      split at h
      · rename_i hk
        split at h
        · split at h
          · rename_i hfu
            cases h
            refine ⟨⟨congrArg (· + 1) h1, congrArg (· + 1) h1'⟩, fun i d k e => ?_⟩
            cases i with
            | zero => cases e; exact .inr ⟨by simpa using hf, by simpa using hk, rfl, hfu⟩
            | succ i => exact tail i d k (by simpa using e)
          · cases h
        · cases h
          refine ⟨⟨congrArg (· + 1) h1, congrArg (· + 1) h1'⟩, fun i d k e => ?_⟩
          cases i with
          | zero => cases e
          | succ i => exact tail i d k (by simpa using e)
      · cases h
        refine ⟨⟨congrArg (· + 1) h1, congrArg (· + 1) h1'⟩, fun i d k e => ?_⟩
        cases i with
        | zero => cases e
        | succ i => exact tail i d k (by simpa using e)
  | _, [], _ :: _, _, h => by cases h
  | _, _ :: _, [], _, h => by cases h
theorem goodS_blk {n : Nat} {is ks fx : List Nat} {b r : S} {sts : List Stmt} (hb : GoodS ρ { c with fx := fx ++ c.fx } X W b (sts.take n)) (hr : GoodS ρ c X W r (sts.drop n)) : GoodS ρ c X W (.blk n is ks fx b r) sts := by
  intro env σ0 σ G H f R D q
  rw [← List.take_append_drop n sts]
  refine ssv_app (hb (lendE is 0 env) σ σ _ H _ ⟨R.r.lendR is, fun _ _ => rfl⟩ _ ?_)
  have q : PostS c.io c.fx σ0 X.K W f G H (match evS ρ b (lendE is 0 env) with
    | .ok .nx e' => (match mergeE ks fx 0 env e' with
      | some env2 => evS ρ r env2
      | none => .bad)
    | _ => .bad) D := q
  generalize evS ρ b (lendE is 0 env) = rr at q ⊢
  cases rr with
  | bad => exact q.elim
  | exc x e => exact q.elim
  | ok fl e' => cases fl with
    | brk => exact q.elim
    | cnt => exact q.elim
    | ret d k => exact q.elim
    | nx =>
      intro σ' G' H' f' R' S'
      have q : PostS c.io c.fx σ0 X.K W f G H (match mergeE ks fx 0 env e' with
        | some env2 => evS ρ r env2
        | none => .bad) D := q
      cases hm : mergeE ks fx 0 env e' with
      | none => rw [hm] at q; exact q.elim
      | some env2 =>
        rw [hm] at q
        obtain ⟨⟨hl, hl'⟩, hg⟩ := merge_get hm
        have kp : ∀ a o, H a = some o → H' a = some o := fun a o h => S'.keep a o h fun i hi => nomatch hi
        have nb : ∀ i a, a ∈ f' i → H a = none := fun i a h => (S'.newA i a h).elim (fun ⟨j, z⟩ => nomatch z) id
        have gn0 : ∀ a, H a = none → G a = none := fun a h => by
          cases z : G a with
          | none => rfl
          | some o => rcases R.r.sub a o z with q | ⟨_, ob, q⟩ <;> (rw [h] at q; cases q)
        have fcase : ∀ i a, a ∈ (fun i : Nat => if i ∈ fx then f i else if i ∈ ks then f' i else ([] : List Addr)) i → (i ∈ fx ∧ a ∈ f i) ∨ (i ∉ fx ∧ a ∈ f' i) := fun i a h => by
          dsimp only at h
          split at h
          · rename_i z; exact .inl ⟨z, h⟩
          · rename_i z
            split at h
            · exact .inr ⟨z, h⟩
            · cases h
        have R2 : Rel X.K G env2 σ' H' (fun i => if i ∈ fx then f i else if i ∈ ks then f' i else []) := by
          refine ⟨by rw [hl, ← hl', R'.r.len], fun i d k e => ?_, fun i => ?_, fun i j a hi hj => ?_, fun i a h => ?_, fun i a h => ?_, R'.r.sub.le ((Le.addG fun a ha => by obtain ⟨i, _, h⟩ := List.mem_flatMap.mp ha; exact R.r.gn i a h).trans S'.grow)⟩
          · rcases hg i d k e with ⟨h1, h2⟩ | ⟨h1, h2, h3, h4⟩
            · rw [Nat.zero_add] at h1
              obtain ⟨v, h5, h6⟩ := R.r.slot i d k h2
              refine ⟨v, by rw [R'.lo i (.inr (List.mem_append_left _ h1))]; exact h5, ?_⟩
              show Own X.K G H' k v d (if i ∈ fx then f i else if i ∈ ks then f' i else [])
              rw [if_pos h1]
              exact h6.keep (.refl _) fun a _ o h => kp a o h
            · rw [Nat.zero_add] at h1 h2
              obtain ⟨v, h5, h6⟩ := R'.r.slot i d k h3
              refine ⟨v, h5, ?_⟩
              show Own X.K G H' k v d (if i ∈ fx then f i else if i ∈ ks then f' i else [])
              rw [if_neg h1, if_pos h2]
              exact h6.unlend h4
          · show (if i ∈ fx then f i else if i ∈ ks then f' i else []).Nodup
            split
            · exact R.r.nd i
            · split
              · exact R'.r.nd i
              · exact .nil
          · rcases fcase i a hi with ⟨h1, h2⟩ | ⟨h1, h2⟩ <;> rcases fcase j a hj with ⟨h3, h4⟩ | ⟨h3, h4⟩
            · exact R.r.dj i j a h2 h4
            · exact absurd (nb j a h4) (R.r.ht i a h2)
            · exact absurd (nb i a h2) (R.r.ht j a h4)
            · exact R'.r.dj i j a h2 h4
          · rcases fcase i a h with ⟨_, h2⟩ | ⟨_, h2⟩
            · exact R.r.gn i a h2
            · exact gn0 a (nb i a h2)
          · rcases fcase i a h with ⟨_, h2⟩ | ⟨_, h2⟩
            · exact S'.there a (R.r.ht i a h2)
            · exact R'.r.ht i a h2
        have S2 : Step f G H (fun i => if i ∈ fx then f i else if i ∈ ks then f' i else []) [] G H' := ⟨fun a o h _ => kp a o h, .refl _, fun i a h => (fcase i a h).elim (fun z => .inl ⟨i, z.2⟩) fun z => .inr (nb i a z.2), fun a h => (nomatch h), fun a h => .inl h, S'.there⟩
        exact hr env2 σ0 σ' G H' _ ⟨R2, fun i hi => by rw [R'.lo i (hi.imp id fun z => List.mem_append_right _ z)]; exact R.lo i hi⟩ D (PostS.shift S2 q)
end
end Pv
namespace Pv
open PySem PySem.Spec PyProof.Rows L2
section
variable {ρ : Nat → Fn} {c : Ctx} {X : Cx} {K : Fg} {W : WX} {G G1 G2 G' H H1 H2 H' : Hp} {f f0 f1 f2 : Fo} {σ : L2.St} {Q : VK} {env env1 : Ev} {bs bs1 bs2 : List Addr}
theorem OwnL.setAt {R : V → D → List Addr → Prop} {v : V} {d : D} {b : List Addr} (rv : R v d b) : ∀ {vs : List V} {ds : List D} {bs : List Addr} {j : Nat}, OwnL R vs ds bs → j < ds.length → ∃ old rest cs', bs.Perm (old ++ rest) ∧ OwnL R (vs.set j v) (ds.set j d) cs' ∧ cs'.Perm (rest ++ b)
  | _, _, _, _, .nil, h => by simp at h
  | _, _, _, 0, .cons (b := b0) (bs := bs0) a r, _ => ⟨b0, bs0, b ++ bs0, .refl _, OwnL.cons rv r, List.perm_append_comm⟩
  | _, _, _, j + 1, .cons (b := b0) (bs := bs0) a r, h => by
    obtain ⟨old, rest, cs', h1, h2, h3⟩ := OwnL.setAt rv (j := j) r (by simpa using h)
    refine ⟨old, b0 ++ rest, b0 ++ cs', (List.Perm.append_left b0 h1).trans ?_, OwnL.cons a h2, ?_⟩
    · rw [← List.append_assoc, ← List.append_assoc]
      exact List.Perm.append_right rest List.perm_append_comm
    · rw [List.append_assoc]
      exact List.Perm.append_left b0 h3
/-- one's own list, a place written -/
theorem own_set {G0 H0 : Hp} {k kk j : Nat} {v y : V} {ds : List D} {d : D} (hk : okd k (d, kk) = true) (hj : j < ds.length) (R : Rel K G env σ H f) (T : Tmp K G H f (k + 1) v (.lst ds) bs) (Ty : Tmp K G H f kk y d bs2) (dj : ∀ a ∈ bs, a ∉ bs2) (S : Step f0 G0 H0 f (bs ++ bs2) G H) :
    ∃ l xs G' bs', v = .ref l ∧ H l = some (.lst xs) ∧ xs.length = ds.length ∧ Rel K G' env σ (upd H l (.lst (xs.set j y))) f ∧ Tmp K G' (upd H l (.lst (xs.set j y))) f (k + 1) v (.lst (ds.set j d)) bs' ∧ Step f0 G0 H0 f bs' G' (upd H l (.lst (xs.set j y))) ∧ Le G G' ∧ l ∈ bs := by
  obtain ⟨l, xs, cs, rfl, hl, o, rfl⟩ := T.lst
  obtain ⟨pc, nc⟩ := List.nodup_cons.mp T.nd
  obtain ⟨G5, b5, l5, g5, R5, o5, hs, nd5, gn5, st5⟩ := put_in hk R Ty
  have oy : Own K G5 H k y d b5 := by
    cases o5 with
    | cons a r => cases r; rw [List.append_nil]; exact a
  obtain ⟨old, rest, cs', h1, h2, h3⟩ := OwnL.setAt oy (j := j) (o.imp fun v d b _ o => o.keep l5 fun a _ u e => e) hj
  have djc : ∀ a ∈ l :: cs, a ∉ bs2 := dj
  have mem : ∀ a, a ∈ cs' → a ∈ cs ∨ a ∈ b5 := fun a h => (List.mem_append.mp (h3.mem_iff.mp h)).imp (fun z => h1.mem_iff.mpr (List.mem_append_right _ z)) id
  have T5 : Tmp K G5 H f (k + 1) (.ref l) (.lst ds) (l :: cs) := ⟨T.own.keep l5 fun a _ u e => e, T.nd, fun a h => by rw [g5 a (djc a h)]; exact T.gn a h, T.ap⟩
  have nr : rest.Nodup := (List.nodup_append.mp (h1.nodup_iff.mp nc)).2.1
  obtain ⟨k1, k2, k3⟩ := lst_write (cs' := cs') R5 T5 (st5 G0 H0 f0 _ S fun a h => List.mem_append_right _ h) (fun a h => (List.mem_cons.mp h).elim (fun z => z ▸ List.mem_append_left _ List.mem_cons_self) fun z => (mem a z).elim (fun z => List.mem_append_left _ (List.mem_cons_of_mem _ z)) fun z => List.mem_append_right _ (hs a z)) hl
    (fun z => (mem _ z).elim pc fun z => djc l List.mem_cons_self (hs _ z)) (h3.nodup_iff.mpr (List.nodup_append.mpr ⟨nr, nd5, fun a h b h' e => djc a (List.mem_cons_of_mem _ (h1.mem_iff.mpr (List.mem_append_right _ h))) (hs a (e ▸ h'))⟩))
    (fun a h => (mem a h).elim (fun z => T5.gn a (List.mem_cons_of_mem _ z)) (gn5 a)) (fun a h => (mem a h).elim (fun z => T.ap a (List.mem_cons_of_mem _ z)) fun z => Ty.ap a (hs a z)) h2
  exact ⟨l, xs, G5, _, rfl, hl, o.length, k1, k2, k3, l5, List.mem_cons_self⟩
theorem ixN_lt {n j : Nat} {i : Int} (h : ixN n i = some j) : j < n := by
  unfold ixN at h
  split at h <;> (first | cases h | skip) <;> (try split at h) <;> (first | cases h | skip) <;> omega
theorem good1_setix (xc : XC ρ c X) (tk : Takes X W) {i : Nat} {ix m : E} {x : Str} {y e : Expr} {px sp pos : Pos} (hv : varB c i x = true) (hy : noSl y = true) (h1 : chkE c ix y = true) (h2 : chkE c m e = true) :
    Good1 ρ c X W (.setix i ix m) (.Assign [.Subscript (.Name x px) y sp] e pos) := by
  intro env σ0 σ G H f R D q
  refine SS1.of (ps_asg pe_sem (pg_sub pe_sem pe_sem set_list (by cases y <;> first | (intro _; rfl) | cases hy)) (by cases e <;> rfl) (by cases e <;> rfl)) ?_
  have q : PostS c.io c.fx σ0 X.K W f G H (if env[i]?.join.isSome = true then ((evP ρ m).1 env).bind fun p env1 => ((evP ρ ix).1 env1).bind fun q env2 => match env2[i]? with
    | some (some (d, k + 1)) => (match setL k d p q with
      | some d' => .ok .nx (env2.set i (some (d', k + 1)))
      | none => .bad)
    | _ => .bad else .bad) D := q
  by_cases hc : env[i]?.join.isSome = true
  · rw [if_pos hc] at q
    obtain ⟨p0, hp0⟩ := Option.isSome_iff_exists.mp hc
    have he : env[i]? = some (some p0) := by
      cases z : env[i]? with
      | none => rw [z] at hp0; cases hp0
      | some s => rw [z] at hp0; exact congrArg some hp0
    obtain ⟨v, hs, _⟩ := R.r.slot i p0.1 p0.2 he
    refine (snd_E m c X W e xc tk h2 env σ G H f R.r).1 _ (bndE (P := fun r => PostS c.io c.fx σ0 X.K W f G H r D) q (fun _ _ h => h σ R.lo) id fun p env1 w G1 H1 f1 bs1 R1 T1 S1 q => ?_)
    refine var_syn xc hv hs ?_
    refine (snd_E ix c X W y xc tk h1 env1 σ G1 H1 f1 R1).1 _ (bndE (P := fun r => PostS c.io c.fx σ0 X.K W f G H r D) q (fun _ _ h => ExcP.step (h σ R.lo) S1) id fun p2 env2 u G2 H2 f2 bs2 R2 T2 S2 q => ?_)
    obtain ⟨d1, k1⟩ := p
    obtain ⟨d2, k2⟩ := p2
    have q' : ∃ ds k j jj, env2[i]? = some (some (.lst ds, k + 1)) ∧ d2 = .int j ∧ okd k (d1, k1) = true ∧ ixN ds.length j = some jj ∧ PostS c.io c.fx σ0 X.K W f G H (.ok .nx (env2.set i (some (.lst (ds.set jj d1), k + 1)))) D := by
      split at q
      · rename_i d k e2
        split at q
        · rename_i d' e3
          cases d with
          | lst ds => cases d2 with
            | int j =>
              have e3 : (if okd k (d1, k1) = true then (ixN ds.length j).map fun i => .lst (ds.set i d1) else none) = some d' := e3
              split at e3
              · rename_i ho
                obtain ⟨jj, h5, rfl⟩ := Option.map_eq_some_iff.mp e3
                exact ⟨ds, k, j, jj, e2, rfl, ho, h5, q⟩
              · cases e3
            | _ => cases e3
          | _ => cases d2 <;> cases e3
        · exact q.elim
      · exact q.elim
    obtain ⟨ds, k, j, jj, e2, rfl, ho, hj, q⟩ := q'
    obtain ⟨rfl, rfl⟩ := int_val T2 rfl
    obtain ⟨T1', dj1⟩ := T1.step S2
    obtain ⟨v', hv', T⟩ := R2.take e2
    rw [hs] at hv'
    cases hv'
    obtain ⟨T3, dj⟩ := T1'.step (Step.take (f := f2) (G := G2) (H := H2) (i := i))
    have R3 := R2.kill (i := i)
    have S3 : Step f G H (setf f2 i []) (f2 i ++ bs1) G2 H2 := ((S1.trans S2).trans (Step.take (i := i))).lessB fun a h => (List.mem_append.mp h).elim (fun z => List.mem_append_right _ z) fun z => List.mem_append_left _ (List.mem_append_left _ z)
    obtain ⟨l, xs, G4, bs4, rfl, hl, hxl, R4, T4, S4, _, _⟩ := own_set ho (ixN_lt hj) R3 T T3 (fun a h h' => dj a h' h) S3
    refine ⟨l, xs, j, jj, rfl, rfl, hl, by rw [hxl]; exact hj, ?_⟩
    have R5 := R4.set (i := i) T4
    rw [set_same hs, List.set_set] at R5
    exact q σ G4 _ _ ⟨R5, R.lo⟩ (S4.set fun a h => h)
  · rw [if_neg hc] at q; exact q.elim
theorem good1_setp (xc : XC ρ c X) (tk : Takes X W) {i : Nat} {pp : List Pe} {ix : Pe} {m : E} {x y e : Expr} {sp pos : Pos} (hv : chkP c i pp x = true) (hy : noSl y = true) (h1 : chkPe c ix y = true) (h2 : chkE c m e = true) :
    Good1 ρ c X W (.setp i pp ix m) (.Assign [.Subscript x y sp] e pos) := by
  intro env σ0 σ G H f R D q
  refine SS1.of (ps_asg pe_sem (pg_sub pe_sem pe_sem set_list (by cases y <;> first | (intro _; rfl) | cases hy)) (by cases e <;> rfl) (by cases e <;> rfl)) ?_
  have q : PostS c.io c.fx σ0 X.K W f G H (((evP ρ m).1 env).bind fun p env1 => match env1[i]? with
    | some (some (d, k)) => (match evPe env1 ix with
      | some j => (match pathD env1 pp d with
        | some dl => if pp.length < k then (match setL (k - pp.length - 1) dl p (.int j, 0) with
          | some d' => .ok .nx (env1.set i (some (putP env1 pp d d', k)))
          | none => .bad) else .bad
        | none => .bad)
      | none => .bad)
    | _ => .bad) D := q
  refine (snd_E m c X W e xc tk h2 env σ G H f R.r).1 _ (bndE (P := fun r => PostS c.io c.fx σ0 X.K W f G H r D) q (fun _ _ h => h σ R.lo) id fun p env1 w G1 H1 f1 bs1 R1 T1 S1 q => ?_)
  obtain ⟨d1, k1⟩ := p
  have q' : ∃ d n j ds jj, env1[i]? = some (some (d, n + 1 + pp.length)) ∧ evPe env1 ix = some j ∧ pathD env1 pp d = some (.lst ds) ∧ okd n (d1, k1) = true ∧ ixN ds.length j = some jj ∧ PostS c.io c.fx σ0 X.K W f G H (.ok .nx (env1.set i (some (putP env1 pp d (.lst (ds.set jj d1)), n + 1 + pp.length)))) D := by
    split at q
    · rename_i d k e1
      split at q
      · rename_i j ej
        split at q
        · rename_i dl e2
          split at q
          · rename_i hk
            split at q
            · rename_i d' e3
              obtain ⟨n, rfl⟩ : ∃ n, k = n + 1 + pp.length := ⟨k - pp.length - 1, by omega⟩
              rw [show n + 1 + pp.length - pp.length - 1 = n by omega] at e3
              cases dl with
              | lst ds =>
                have e3 : (if okd n (d1, k1) = true then (ixN ds.length j).map fun i => .lst (ds.set i d1) else none) = some d' := e3
                split at e3
                · rename_i ho
                  obtain ⟨jj, h5, rfl⟩ := Option.map_eq_some_iff.mp e3
                  exact ⟨d, n, j, ds, jj, e1, ej, e2, ho, h5, q⟩
                · cases e3
              | _ => cases e3
            · exact q.elim
          · exact q.elim
        · exact q.elim
      · exact q.elim
    · exact q.elim
  obtain ⟨d, n, j, ds, jj, he, ej, hd, ho, hj, q⟩ := q'
  obtain ⟨v, hs, T⟩ := R1.take he
  obtain ⟨v2, bs2, rest, o2, pm, wk, bk⟩ := focus (n := n + 1) T.own hd
  refine walk_syn xc R1 hs hv wk ?_
  refine pe_syn xc h1 R1 ej ?_
  have m2 : ∀ a ∈ bs2, a ∈ f1 i := fun a h => pm.mem_iff.mpr (List.mem_append_left _ h)
  have mr : ∀ a ∈ rest, a ∈ f1 i := fun a h => pm.mem_iff.mpr (List.mem_append_right _ h)
  obtain ⟨n1, n2, n3⟩ := List.nodup_append.mp (pm.nodup_iff.mp T.nd)
  have hk1 : ∀ d k, (env1.set i none)[i]? ≠ some (some (d, k)) := fun d k e => by
    by_cases hl : i < env1.length
    · rw [List.getElem?_set_self hl] at e; cases e
    · rw [List.getElem?_eq_none (by simpa using hl)] at e; cases e
  have R2 := (R1.kill (i := i)).park hk1 n2 (fun a h => T.gn a (mr a h)) (fun a h => T.ap a (mr a h)) (fun a h => T.own.there a (mr a h))
  rw [setf_nil] at R2
  have T2 : Tmp X.K G1 H1 (setf f1 i rest) (n + 1) v2 (.lst ds) bs2 := ⟨o2, n1, fun a h => T.gn a (m2 a h), fun a h j hj => by
    by_cases z : j = i
    · subst z; rw [setf_at] at hj; exact n3 a h a hj rfl
    · rw [setf_ne z] at hj; exact T.ap a (m2 a h) j (by rw [setf_ne z]; exact hj)⟩
  have TA : Tmp X.K G1 H1 (setf f1 i rest) k1 w d1 bs1 := ⟨T1.own, T1.nd, T1.gn, fun a h j hj => by
    by_cases z : j = i
    · subst z; rw [setf_at] at hj; exact T1.ap a h j (mr a hj)
    · rw [setf_ne z] at hj; exact T1.ap a h j hj⟩
  have S3 : Step f G H (setf f1 i rest) (bs2 ++ bs1) G1 H1 := ⟨S1.keep, S1.grow, fun j a h => by
    by_cases z : j = i
    · subst z; rw [setf_at] at h; exact S1.newA j a (mr a h)
    · rw [setf_ne z] at h; exact S1.newA j a h, fun a h => (List.mem_append.mp h).elim (fun z => S1.newA i a (m2 a z)) fun z => S1.newB a z, S1.newG, S1.there⟩
  obtain ⟨l, xs, G4, bs4, rfl, hl, hxl, R4, T4, S4, le, hlm⟩ := own_set ho (ixN_lt hj) R2 T2 TA (fun a h h' => T1.ap a h' i (m2 a h)) S3
  refine ⟨l, xs, j, jj, rfl, rfl, hl, by rw [hxl]; exact hj, ?_⟩
  obtain ⟨cs, oc, pmc⟩ := bk G4 (upd H1 l (.lst (xs.set jj w))) (.lst (ds.set jj d1)) bs4 le (fun a h o e => by rw [upd_ne fun z => n3 a (by rw [z]; exact hlm) a h rfl]; exact e) T4.own
  have pmc' : cs.Perm (bs4 ++ setf f1 i rest i) := by rw [setf_at]; exact pmc
  have R5 := R4.unpark T4 hs oc pmc'
  rw [List.set_set] at R5
  exact q σ G4 _ _ ⟨R5, R.lo⟩ (Step.unpark (bs3 := []) (by rw [List.append_nil]; exact S4) pmc')
mutual
theorem snd_1 (hpp : True) : ∀ (m : S) (c : Ctx) (X : Cx) (W : WX) (st : Stmt), XC ρ c X → Takes X W → PassesOwn (model X.prog X.w) X.A X.env X.xe → chk1 c m st = true → Good1 ρ c X W m st
  | .set i m, c, X, W, st, xc, tk, hp, h => by
    unfold chk1 at h
    split at h
    · rename_i x px e p ev
      cases vAsgN_eq ev
      obtain ⟨g6, k7⟩ := and2 h
      obtain ⟨g5, k6⟩ := and2 g6
      obtain ⟨g4, k5⟩ := and2 g5
      obtain ⟨g3, k4⟩ := and2 g4
      obtain ⟨g2, k3⟩ := and2 g3
      obtain ⟨k1, k2⟩ := and2 g2
      exact good1_set xc tk (beq_iff_eq.mp k1) k2 k3 k4 k5 k6 k7
    · cases h
  | .unp t m, c, X, W, st, xc, tk, hp, h => by
    unfold chk1 at h
    split at h
    · rename_i tg e p ev
      cases vAsgT_eq ev
      obtain ⟨g4, k5⟩ := and2 h
      obtain ⟨g3, k4⟩ := and2 g4
      obtain ⟨g2, k3⟩ := and2 g3
      obtain ⟨k1, k2⟩ := and2 g2
      exact good1_unp xc tk k1 k2 k3 k5 k4
    · cases h
  | .inc i m, c, X, W, st, xc, tk, hp, h => by
    unfold chk1 at h
    split at h
    · rename_i x px e p ev
      cases vAug_eq ev
      obtain ⟨g3, k4⟩ := and2 h
      obtain ⟨g2, k3⟩ := and2 g3
      obtain ⟨k1, k2⟩ := and2 g2
      exact good1_inc xc tk (beq_iff_eq.mp k1) k2 k3 k4
    · cases h
  | .ifs k a b, c, X, W, st, xc, tk, hp, h => by
    unfold chk1 at h
    split at h
    · rename_i e x y p ev
      cases vIf_eq ev
      obtain ⟨g2, k3⟩ := and2 h
      obtain ⟨k1, k2⟩ := and2 g2
      exact good1_ifs xc tk k1 (snd_S hpp a c X W _ xc tk hp k2) (snd_S hpp b c X W _ xc tk hp k3)
    · cases h
  | .whl n k b, c, X, W, st, xc, tk, hp, h => by
    unfold chk1 at h
    split at h
    · rename_i e x p ev
      cases vWhl_eq ev
      obtain ⟨k1, k2⟩ := and2 h
      exact good1_whl xc tk hp k1 (snd_S hpp b c X W _ xc tk hp k2)
    · cases h
  | .fr t it b, c, X, W, st, xc, tk, hp, h => by
    unfold chk1 at h
    split at h
    · rename_i tg e x p ev
      cases vFor_eq ev
      obtain ⟨g4, k5⟩ := and2 h
      obtain ⟨g3, k4⟩ := and2 g4
      obtain ⟨g2, k3⟩ := and2 g3
      obtain ⟨k1, k2⟩ := and2 g2
      exact good1_fr xc hp k1 k2 (snd_I it c X W _ _ xc tk k3) k4 (snd_S hpp b c X W _ xc tk hp k5)
    · cases h
  | .ret m, c, X, W, st, xc, tk, hp, h => by
    unfold chk1 at h
    split at h
    · rename_i e p ev
      cases vRet_eq ev
      exact good1_ret xc tk h
    · rename_i p ev
      cases vRet_eq ev
      exact good1_retN h
    · cases h
  | .ex m, c, X, W, st, xc, tk, hp, h => by
    unfold chk1 at h
    split at h
    · rename_i e p ev
      cases vEx_eq ev
      obtain ⟨k1, k2⟩ := and2 h
      exact good1_ex xc tk k1 k2
    · cases h
  | .setix i ix m, c, X, W, st, xc, tk, hp, h => by
    unfold chk1 at h
    split at h
    · rename_i x px y sp e p ev
      cases vAsgS_eq ev
      obtain ⟨g3, k4⟩ := and2 h
      obtain ⟨g2, k3⟩ := and2 g3
      obtain ⟨k1, k2⟩ := and2 g2
      exact good1_setix xc tk k1 k2 k3 k4
    · cases h
  | .setp i pp ix m, c, X, W, st, xc, tk, hp, h => by
    unfold chk1 at h
    split at h
    · rename_i x y e ev
      obtain ⟨sp, p, rfl⟩ := vAsgP_eq ev
      obtain ⟨g3, k4⟩ := and2 h
      obtain ⟨g2, k3⟩ := and2 g3
      obtain ⟨k1, k2⟩ := and2 g2
      exact good1_setp xc tk k1 k2 k3 k4
    · cases h
  | .brk, c, X, W, st, xc, tk, hp, h => by
    unfold chk1 at h
    cases st with
    | Break p => exact fun env σ0 σ G H f R D q => SS1.of ps_break (q σ G H f R Step.refl)
    | _ => cases h
  | .cnt, c, X, W, st, xc, tk, hp, h => by
    unfold chk1 at h
    cases st with
    | Continue p => exact fun env σ0 σ G H f R D q => SS1.of ps_continue (q σ G H f R Step.refl)
    | _ => cases h
  | .pass, c, X, W, st, xc, tk, hp, h => by
    unfold chk1 at h
    cases st with
    | Pass p => exact fun env σ0 σ G H f R D q => SS1.of ps_pass (q σ G H f R Step.refl)
    | _ => cases h
  | .rse, c, X, W, st, xc, tk, hp, h => by
    intro env σ0 σ G H f R D q
    have e : evS ρ .rse env = .bad := by unfold evS; rfl
    rw [e] at q
    exact q.elim
  | .nil, c, X, W, st, xc, tk, hp, h => by unfold chk1 at h; cases h
  | .one _ _, c, X, W, st, xc, tk, hp, h => by unfold chk1 at h; cases h
  | .blk _ _ _ _ _ _, c, X, W, st, xc, tk, hp, h => by unfold chk1 at h; cases h
  | .kill _ _, c, X, W, st, xc, tk, hp, h => by unfold chk1 at h; cases h
  | .frz _ _, c, X, W, st, xc, tk, hp, h => by unfold chk1 at h; cases h
theorem snd_S (hpp : True) : ∀ (m : S) (c : Ctx) (X : Cx) (W : WX) (sts : List Stmt), XC ρ c X → Takes X W → PassesOwn (model X.prog X.w) X.A X.env X.xe → chkS c m sts = true → GoodS ρ c X W m sts
  | .nil, c, X, W, sts, xc, tk, hp, h => by
    cases sts with
    | nil => exact goodS_nil
    | cons _ _ => unfold chkS at h; cases h
  | .one a r, c, X, W, sts, xc, tk, hp, h => by
    cases sts with
    | nil => unfold chkS at h; cases h
    | cons st sts =>
      have h : (chk1 c a st && chkS c r sts) = true := by unfold chkS at h; exact h
      obtain ⟨h1, h2⟩ := and2 h
      exact goodS_one (snd_1 hpp a c X W st xc tk hp h1) (snd_S hpp r c X W sts xc tk hp h2)
  | .kill is r, c, X, W, sts, xc, tk, hp, h => goodS_kill (snd_S hpp r c X W sts xc tk hp (by cases sts <;> (unfold chkS at h; exact h)))
  | .frz is r, c, X, W, sts, xc, tk, hp, h => goodS_frz (snd_S hpp r c X W sts xc tk hp (by cases sts <;> (unfold chkS at h; exact h)))
  | .blk n is ks fx b r, c, X, W, sts, xc, tk, hp, h => by
    have h : (chkS { c with fx := fx ++ c.fx } b (sts.take n) && chkS c r (sts.drop n)) = true := by cases sts <;> (unfold chkS at h; exact h)
    obtain ⟨h1, h2⟩ := and2 h
    exact goodS_blk (snd_S hpp b _ X W _ ⟨xc.n, xc.nd, xc.sc, xc.fnf, xc.calm, xc.un, xc.blt, xc.gcs, xc.gts, xc.fns⟩ tk hp h1) (snd_S hpp r c X W _ xc tk hp h2)
  | .set _ _, c, X, W, sts, xc, tk, hp, h => by cases sts <;> (unfold chkS at h; cases h)
  | .unp _ _, c, X, W, sts, xc, tk, hp, h => by cases sts <;> (unfold chkS at h; cases h)
  | .inc _ _, c, X, W, sts, xc, tk, hp, h => by cases sts <;> (unfold chkS at h; cases h)
  | .ifs _ _ _, c, X, W, sts, xc, tk, hp, h => by cases sts <;> (unfold chkS at h; cases h)
  | .whl _ _ _, c, X, W, sts, xc, tk, hp, h => by cases sts <;> (unfold chkS at h; cases h)
  | .fr _ _ _, c, X, W, sts, xc, tk, hp, h => by cases sts <;> (unfold chkS at h; cases h)
  | .ret _, c, X, W, sts, xc, tk, hp, h => by cases sts <;> (unfold chkS at h; cases h)
  | .ex _, c, X, W, sts, xc, tk, hp, h => by cases sts <;> (unfold chkS at h; cases h)
  | .setix _ _ _, c, X, W, sts, xc, tk, hp, h => by cases sts <;> (unfold chkS at h; cases h)
  | .setp _ _ _ _, c, X, W, sts, xc, tk, hp, h => by cases sts <;> (unfold chkS at h; cases h)
  | .brk, c, X, W, sts, xc, tk, hp, h => by cases sts <;> (unfold chkS at h; cases h)
  | .rse, c, X, W, sts, xc, tk, hp, h => by cases sts <;> (unfold chkS at h; cases h)
  | .cnt, c, X, W, sts, xc, tk, hp, h => by cases sts <;> (unfold chkS at h; cases h)
  | .pass, c, X, W, sts, xc, tk, hp, h => by cases sts <;> (unfold chkS at h; cases h)
end
end
end Pv
namespace Pv
open PySem PySem.Spec PyProof.Rows L2
/-! ## defs -/
structure Df where
  name : Str
  n : Nat
  io : Nat
  N : List Str
  body : S
def inits : Nat → List (D × Nat) → Ev
  | _, [] => []
  | 0, p :: r => some (p.1, 0) :: inits 0 r
  | io + 1, p :: r => some p :: inits io r
def upto : Nat → Nat → List Nat
  | _, 0 => []
  | i, n + 1 => i :: upto (i + 1) n
def endF (io : Nat) (r : Res Fl) : FR := match r with
  | .ok (.ret d k) env => (match getSlots env (upto 0 io) with
    | some outs => .ok d k outs
    | none => .bad)
  | .ok .nx env => (match getSlots env (upto 0 io) with
    | some outs => .ok .non 0 outs
    | none => .bad)
  | .exc x env => (match getSlots env (upto 0 io) with
    | some outs => .exc x outs
    | none => .bad)
  | _ => .bad
def runF (ρ : Nat → Fn) (d : Df) : Fn := ⟨d.io, fun ps => if ps.length = d.n then endF d.io (evS ρ d.body (inits d.io ps ++ List.replicate (d.N.length - d.n) none)) else .bad⟩
section
variable {ρ : Nat → Fn} {c : Ctx} {X : Cx} {K : Fg} {W : WX} {G G1 G2 G' H H1 H2 H' : Hp} {f f0 f1 f2 : Fo} {σ : L2.St} {Q : VK} {env env1 : Ev} {bs bs1 bs2 : List Addr}
theorem inits_len : ∀ (io : Nat) (ps : List (D × Nat)), (inits io ps).length = ps.length
  | _, [] => by cases ‹Nat› <;> rfl
  | 0, p :: r => congrArg (· + 1) (inits_len 0 r)
  | io + 1, p :: r => congrArg (· + 1) (inits_len io r)
theorem inits0 {ps : List (D × Nat)} : ∀ {vs : List V}, RepL K G vs (ps.map (·.1)) → ∀ (i : Nat) (d : D) (k : Nat), (inits 0 ps)[i]? = some (some (d, k)) → k = 0 ∧ ∃ v, vs[i]? = some v ∧ Rep K G v d := by
  induction ps with
  | nil => intro vs r i d k e; simp [inits] at e
  | cons p ps ih =>
    intro vs r i d k e
    cases r with
    | cons a r =>
      cases i with
      | zero => cases e; exact ⟨rfl, _, rfl, a⟩
      | succ i => exact ih r i d k e
theorem init_rel : ∀ {io : Nat} {vs : List V} {ps : List (D × Nat)} {bs : List Addr}, OwnArgs K G H io vs ps bs → bs.Nodup → ∃ f : Fo, (∀ i d k, (inits io ps)[i]? = some (some (d, k)) → ∃ v, vs[i]? = some v ∧ Own K G H k v d (f i)) ∧ (∀ i, (f i).Nodup) ∧ (∀ i j a, a ∈ f i → a ∈ f j → i = j) ∧ ∀ i a, a ∈ f i → a ∈ bs
  | 0, vs, ps, bs, ⟨h1, h2, h3⟩, nd => by
    refine ⟨fun _ => [], fun i d k e => ?_, fun _ => .nil, fun _ _ _ h => (nomatch h), fun _ _ h => (nomatch h)⟩
    obtain ⟨rfl, v, h4, h5⟩ := inits0 h2 i d k e
    exact ⟨v, h4, h5, rfl⟩
  | io + 1, [], ps, bs, ⟨h1, h2, h3⟩, nd => by simp at h3
  | io + 1, v :: vs, [], bs, ⟨h1, h2, h3⟩, nd => by
    have h1 : OwnP K G H (v :: vs.take io) [] bs := h1
    cases h1
  | io + 1, v :: vs, p :: ps, bs, ⟨h1, h2, h3⟩, nd => by
    have h1 : OwnP K G H (v :: vs.take io) (p :: ps.take io) bs := h1
    cases h1 with
    | cons o r =>
      obtain ⟨n1, n2, n3⟩ := List.nodup_append.mp nd
      obtain ⟨f, e1, e2, e3, e4⟩ := init_rel (io := io) ⟨r, h2, by simpa using h3⟩ n2
      rename_i d k b bs'
      refine ⟨fun i => match i with
        | 0 => b
        | i + 1 => f i, fun i d' k' e => ?_, fun i => ?_, fun i j a hi hj => ?_, fun i a h => ?_⟩
      · cases i with
        | zero => cases e; exact ⟨v, rfl, o⟩
        | succ i => exact e1 i d' k' e
      · cases i with
        | zero => exact n1
        | succ i => exact e2 i
      · cases i with
        | zero => cases j with
          | zero => rfl
          | succ j => exact absurd rfl (n3 a hi a (e4 j a hj))
        | succ i => cases j with
          | zero => exact absurd rfl (n3 a hj a (e4 i a hi))
          | succ j => exact congrArg (· + 1) (e3 i j a hi hj)
      · cases i with
        | zero => exact List.mem_append_left _ h
        | succ i => exact List.mem_append_right _ (e4 i a h)
theorem upto_mem {n : Nat} : ∀ {i j : Nat}, j ∈ upto i n → i ≤ j ∧ j < i + n := by
  induction n with
  | zero => intro i j h; cases h
  | succ n ih =>
    intro i j h
    rcases List.mem_cons.mp h with e | e
    · subst e; exact ⟨Nat.le_refl _, by omega⟩
    · obtain ⟨h1, h2⟩ := ih e; omega
theorem upto_nodup {n : Nat} : ∀ {i : Nat}, nodupB (upto i n) = true := by
  induction n with
  | zero => intro i; rfl
  | succ n ih =>
    intro i
    show (!((upto (i + 1) n).contains i) && nodupB (upto (i + 1) n)) = true
    rw [ih, Bool.and_true]
    have : i ∉ upto (i + 1) n := fun h => by have := upto_mem h; omega
    simpa using this
theorem start_get {N : List Str} {vs : List V} {i : Nat} {v : V} (h : vs[i]? = some v) : (start N vs)[i]? = some (some v) := by
  unfold L2.start
  have hl := (List.getElem?_eq_some_iff.mp h).1
  rw [List.getElem?_append_left (by simpa using hl), List.getElem?_map, h]
  rfl
theorem vs_upto {io : Nat} : ∀ {i : Nat} {vs : List V}, (∀ j, j < io → σ[i + j]? = (vs.map some)[j]?) → io ≤ vs.length → VS σ (upto i io) (vs.take io) := by
  induction io with
  | zero => intro i vs h hl; exact .nil
  | succ n ih =>
    intro i vs h hl
    cases vs with
    | nil => simp at hl
    | cons v vs =>
      refine .cons (by have := h 0 (by omega); simpa using this) (ih (fun j hj => ?_) (by simpa using hl))
      have := h (j + 1) (by omega)
      rw [show i + 1 + j = i + (j + 1) by omega]
      simpa using this
/-- a def that fits its small body -/
structure Entry (P : Program) (w : World) (K : Fg) (mg : Str → Option Value) (base : Heap) (k : Nat) (fn : Fn) (x : Str) (n : Nat) : Prop where
  at_ : mg x = some (.ref (He.ga K x))
  ex : ∃ fd ps, ps.length = n ∧ PySem.W.keepIn K (.ref (He.ga K x)) = true ∧ Binds K fd ps [] ∧ FnOk P w K mg base (L2.CX P w) k (He.ga K x) fd ps (spF K fn ps.length)
/-- what the module's names are -/
structure Glob (K : Fg) (mg : Str → Option Value) (blt : List Str) (gcs : List (Str × Const)) (gts : List (Str × List Const)) : Prop where
  blt : ∀ x ∈ blt, mg x = none
  gcs : ∀ p ∈ gcs, ∃ u, mg p.1 = some u ∧ RelV (cVal p.2) u
  gts : ∀ p ∈ gts, ∃ a, mg p.1 = some (.ref a) ∧ ∀ H, SqT K H a (p.2.map cVal)
theorem def_okG {CX : CXT} {sp : Sp} {P : Program} {w : World} {mg : Str → Option Value} {base : Heap} {x : Str} {params : Arguments} {body : List Stmt} {scope : Scope} {fd : FuncData} {d : Df} {ps : List Str} {k : Nat}
    (Fd : FunD K x x params body scope [] [] (He.ga K x) fd) (hN : c.N = d.N) (hio : c.io = d.io) (hsc : c.sc = scope) (hfn : c.fnf = fun _ => true) (S : FnScope d.N ps scope) (hps : ps.length = d.n) (hiol : d.io ≤ d.n) (hg : Glob K mg c.blt c.gcs c.gts)
    (hf : ∀ j x n, c.fns[j]? = some (x, n) → ∃ k', k' ≤ k ∧ Entry P w K mg base k' (ρ j) x n) (hc : chkS c d.body body = true)
    (hspF : ∀ vs H Q E, sp vs H Q E → spF K (runF ρ d) ps.length vs H Q E)
    (htk : ∀ (cdv : Value) (A : Around) (outer : List Env) (s : Shared) (H : Hp) (vs : List V) (Q : VK) (E : XK), sp vs H Q E → Takes (cxOf CX P w K mg base d.N x scope (He.ga K x) cdv A outer s H E) (fun cls dd _ H => E cls dd H)) :
    FnOk P w K mg base CX (k + 1) (He.ga K x) fd ps sp := by
  refine Fd.ok S (fun vs H Q E h => (hspF _ _ _ _ h).1) fun cdv A outer s H vs Q E hr hsp0 => ?_
  have hsp := hspF _ _ _ _ hsp0
  obtain ⟨hvl, G, as, bs, hal, o0, post⟩ := hsp
  have xc : XC ρ c (cxOf CX P w K mg base d.N x scope (He.ga K x) cdv A outer s H E) :=
    ⟨hN.symm, S.nd, hsc.symm, hfn.symm, rfl, (by have := hr.un; show (A.deeper (envOfC x scope s.heap.objs.size (He.ga K x) cdv)).units + 65 < cLine; omega), hg.blt, hg.gcs, hg.gts, fun j x n h => by
      obtain ⟨k', hk, e1, fd', ps', e2, e3, e4, e5⟩ := hf j x n h
      exact ⟨e1, fd', ps', k', e2, e3, e4, hr.mono hk, e5⟩⟩
  have tk : Takes (cxOf CX P w K mg base d.N x scope (He.ga K x) cdv A outer s H E) (fun cls dd _ H => E cls dd H) := htk cdv A outer s H vs Q E hsp0
  refine ⟨_, pss_sem, ?_⟩
  obtain ⟨f, f1, f2, f3, f4⟩ := init_rel o0.own o0.nd
  have hNl : d.n ≤ d.N.length := by
    have := congrArg List.length S.pre
    rw [List.length_take] at this
    omega
  have hav : as.length = vs.length := by rw [hal, hvl]
  have hiov : d.io ≤ vs.length := by rw [hvl, hps]; exact hiol
  have own0 : OwnP K G H (vs.take d.io) (as.take d.io) bs := o0.own.1
  have ht : ∀ a ∈ bs, H a ≠ none := own0.there
  have R : Rel K G (inits d.io as ++ List.replicate (d.N.length - d.n) none) (start d.N vs) H f := by
    refine ⟨?_, fun i d' k' e => ?_, f2, f3, fun i a h => o0.gn a (f4 i a h), fun i a h => ht a (f4 i a h), o0.sub⟩
    · unfold L2.start
      simp only [List.length_append, List.length_map, List.length_replicate, inits_len]
      rw [hav, hvl, hps]
    · by_cases hi : i < as.length
      · rw [List.getElem?_append_left (by rw [inits_len]; exact hi)] at e
        obtain ⟨v, h1, h2⟩ := f1 i d' k' e
        exact ⟨v, start_get h1, h2⟩
      · rw [List.getElem?_append_right (by rw [inits_len]; omega), List.getElem?_replicate] at e
        split at e <;> cases e
  have post : PostF K d.io vs bs G H (endF d.io (evS ρ d.body (inits d.io as ++ List.replicate (d.N.length - d.n) none))) Q E := by
    have e : (runF ρ d).F as = endF d.io (evS ρ d.body (inits d.io as ++ List.replicate (d.N.length - d.n) none)) := if_pos (by rw [hal, hps])
    rw [← e]; exact post
  have lo0 : ∀ {σ' : L2.St}, Lo c.io c.fx (start d.N vs) σ' → VS σ' (upto 0 d.io) (vs.take d.io) := fun {σ'} lo => by
    refine vs_upto (fun j hj => ?_) hiov
    rw [Nat.zero_add, lo j (.inl (by rw [hio]; exact hj))]
    unfold L2.start
    rw [List.getElem?_append_left (by simp; omega)]
  -- what the body's end leaves of the things handed in
  have fin : ∀ {env' : Ev} {outs : List (D × Nat)} {σ' : L2.St} {G' H' : Hp} {f' : Fo} {ds : List Addr}, getSlots env' (upto 0 d.io) = some outs → RelS c.io c.fx (start d.N vs) K G' env' σ' H' f' → Step f G H f' ds G' H' →
      ∃ cs, OwnP K G' H' (vs.take d.io) outs cs ∧ cs.Nodup ∧ (∀ a ∈ cs, G' a = none) ∧ Step (one bs) G H (one cs) ds G' H' ∧ ∀ {k : Nat} {v : V} {dd : D}, Tmp K G' H' f' k v dd ds → ∀ a ∈ cs, a ∉ ds := by
    intro env' outs σ' G' H' f' ds hgs R' S'
    obtain ⟨vs', f'', cs, h1, h2, h3, h4⟩ := take_all upto_nodup hgs R'.r
    cases h1.uniq (lo0 R'.lo)
    have fb : ∀ a, (∃ j, a ∈ f j) → a ∈ bs := fun a ⟨j, h⟩ => f4 j a h
    refine ⟨cs, h3.own, h3.nd, h3.gn, ⟨fun a o e hn => S'.keep a o e fun i hi => hn 0 (one_mem (f4 i a hi)), S'.grow, fun i a hi => ?_, fun a ha => (S'.newB a ha).imp (fun z => ⟨0, one_mem (fb a z)⟩) id, fun a ha => (S'.newG a ha).imp id fun z => z.imp (fun z => ⟨0, one_mem (fb a z)⟩) id, S'.there⟩, fun {k v dd} T a ha hd => ?_⟩
    · rcases h4.newB a (mem_one hi) with ⟨j, z⟩ | z
      · exact (S'.newA j a z).imp (fun z => ⟨0, one_mem (fb a z)⟩) id
      · by_cases q : H a = none
        · exact .inr q
        · exact absurd z (S'.there a q)
    · obtain ⟨_, dj⟩ := T.step h4
      exact dj a hd ha
  refine snd_S trivial d.body c _ _ body xc tk (passes_of rfl) hc _ (start d.N vs) (start d.N vs) G H f ⟨R, fun _ _ => rfl⟩ _ ?_
  generalize hr' : evS ρ d.body (inits d.io as ++ List.replicate (d.N.length - d.n) none) = r at post ⊢
  cases r with
  | bad => exact post.elim
  | exc x' env' =>
    intro σ' lo cls dd G' H' f' R' er S'
    have post : PostF K d.io vs bs G H (match getSlots env' (upto 0 d.io) with
      | some outs => .exc x' outs
      | none => .bad) Q E := post
    cases hgs : getSlots env' (upto 0 d.io) with
    | none => rw [hgs] at post; exact post.elim
    | some outs =>
      rw [hgs] at post
      obtain ⟨cs, h1, h2, h3, h4, _⟩ := fin hgs ⟨R', lo⟩ S'
      exact post cls dd G' H' cs h1 h2 h3 R'.sub er h4
  | ok fl env' => cases fl with
    | brk => exact post.elim
    | cnt => exact post.elim
    | nx =>
      intro σ' G' H' f' R' S'
      have post : PostF K d.io vs bs G H (match getSlots env' (upto 0 d.io) with
        | some outs => .ok .non 0 outs
        | none => .bad) Q E := post
      cases hgs : getSlots env' (upto 0 d.io) with
      | none => rw [hgs] at post; exact post.elim
      | some outs =>
        rw [hgs] at post
        obtain ⟨cs, h1, h2, h3, h4, _⟩ := fin hgs R' S'
        exact post .non G' H' cs [] h1 ⟨.non, rfl⟩ (by rw [List.append_nil]; exact h2) (by rw [List.append_nil]; exact h3) R'.r.sub h4
    | ret dv k' =>
      intro v σ' G' H' f' ds R' T' S'
      have post : PostF K d.io vs bs G H (match getSlots env' (upto 0 d.io) with
        | some outs => .ok dv k' outs
        | none => .bad) Q E := post
      cases hgs : getSlots env' (upto 0 d.io) with
      | none => rw [hgs] at post; exact post.elim
      | some outs =>
        rw [hgs] at post
        obtain ⟨cs, h1, h2, h3, h4, h5⟩ := fin hgs R' S'
        exact post v G' H' cs ds h1 T'.own (List.nodup_append.mpr ⟨h2, T'.nd, fun a h b h' e => h5 T' a h (e ▸ h')⟩) (fun a h => (List.mem_append.mp h).elim (h3 a) (T'.gn a)) R'.r.sub h4
theorem def_ok {P : Program} {w : World} {mg : Str → Option Value} {base : Heap} {x : Str} {params : Arguments} {body : List Stmt} {scope : Scope} {fd : FuncData} {d : Df} {ps : List Str} {k : Nat}
    (Fd : FunD K x x params body scope [] [] (He.ga K x) fd) (hN : c.N = d.N) (hio : c.io = d.io) (hsc : c.sc = scope) (hfn : c.fnf = fun _ => true) (S : FnScope d.N ps scope) (hps : ps.length = d.n) (hiol : d.io ≤ d.n) (hg : Glob K mg c.blt c.gcs c.gts)
    (hf : ∀ j x n, c.fns[j]? = some (x, n) → ∃ k', k' ≤ k ∧ Entry P w K mg base k' (ρ j) x n) (hc : chkS c d.body body = true) : FnOk P w K mg base (L2.CX P w) (k + 1) (He.ga K x) fd ps (spF K (runF ρ d) ps.length) :=
  def_okG Fd hN hio hsc hfn S hps hiol hg hf hc (fun _ _ _ _ h => h) fun _ _ _ _ _ _ _ _ _ => takes_of rfl rfl rfl rfl
/-- the law's own def: nothing leaves it -/
def spL (K : Fg) (fn : Fn) (n : Nat) : Sp := fun vs H Q E => spF K fn n vs H Q E ∧ ∀ cls dd H', ¬ E cls dd H'
theorem law_ok {P : Program} {w : World} {mg : Str → Option Value} {base : Heap} {x : Str} {params : Arguments} {body : List Stmt} {scope : Scope} {fd : FuncData} {d : Df} {ps : List Str} {k : Nat}
    (Fd : FunD K x x params body scope [] [] (He.ga K x) fd) (hN : c.N = d.N) (hio : c.io = d.io) (hsc : c.sc = scope) (hfn : c.fnf = fun _ => true) (S : FnScope d.N ps scope) (hps : ps.length = d.n) (hiol : d.io ≤ d.n) (hg : Glob K mg c.blt c.gcs c.gts)
    (hf : ∀ j x n, c.fns[j]? = some (x, n) → ∃ k', k' ≤ k ∧ Entry P w K mg base k' (ρ j) x n) (hc : chkS c d.body body = true) : FnOk P w K mg base CX0 (k + 1) (He.ga K x) fd ps (spL K (runF ρ d) ps.length) :=
  def_okG Fd hN hio hsc hfn S hps hiol hg hf hc (fun _ _ _ _ h => h.1) fun _ _ _ _ _ _ _ _ h => takes0.imp fun cls d _ H z => h.2 cls d H z
/-! ## the table of defs -/
def look (fs : List Fn) (j : Nat) : Fn := fs.getD j default
structure EntsAt (P : Program) (w : World) (K : Fg) (mg : Str → Option Value) (base : Heap) (k : Nat) (fns : List (Str × Nat)) (fs : List Fn) : Prop where
  len : fns.length = fs.length
  at_ : ∀ j x n, fns[j]? = some (x, n) → ∃ k', k' ≤ k ∧ Entry P w K mg base k' (look fs j) x n
section
variable {P : Program} {w : World} {mg : Str → Option Value} {base : Heap} {k : Nat} {fns : List (Str × Nat)} {fs : List Fn}
theorem EntsAt.nil : EntsAt P w K mg base k [] [] := ⟨rfl, fun j x n h => by simp at h⟩
theorem EntsAt.snoc {fn : Fn} {x : Str} {n k' : Nat} (E : EntsAt P w K mg base k fns fs) (e : Entry P w K mg base k' fn x n) (hk : k' ≤ k + 1) : EntsAt P w K mg base (k + 1) (fns ++ [(x, n)]) (fs ++ [fn]) := by
  refine ⟨by simp [E.len], fun j y m h => ?_⟩
  by_cases hj : j < fns.length
  · rw [List.getElem?_append_left hj] at h
    obtain ⟨k2, h1, h2⟩ := E.at_ j y m h
    refine ⟨k2, by omega, ?_⟩
    have e : look (fs ++ [fn]) j = look fs j := by
      unfold look
      rw [List.getD_eq_getElem?_getD, List.getD_eq_getElem?_getD, List.getElem?_append_left (by rw [← E.len]; exact hj)]
    rw [e]; exact h2
  · rw [List.getElem?_append_right (by omega)] at h
    have h0 : j - fns.length = 0 := by
      by_cases z : j - fns.length = 0
      · exact z
      · rw [List.getElem?_eq_none (by simp; omega)] at h; cases h
    rw [h0] at h
    cases h
    refine ⟨k', hk, ?_⟩
    have e2 : look (fs ++ [fn]) j = fn := by
      unfold look
      rw [List.getD_eq_getElem?_getD, List.getElem?_append_right (by rw [← E.len]; omega), ← E.len, h0]
      rfl
    rw [e2]; exact e
theorem EntsAt.add {x : Str} {params : Arguments} {body : List Stmt} {scope : Scope} {fd : FuncData} {d : Df} {ps : List Str} (E : EntsAt P w K mg base k fns fs) (hmg : mg x = some (.ref (He.ga K x))) (Fd : FunD K x x params body scope [] [] (He.ga K x) fd)
    (hb : ∀ (kV doc pm : Value) (an : Option Addr) (cdv ct : Value) (us : List Value), us.length = ps.length → bindArgs (PySem.W.fnOf x x params body scope .none kV doc pm an cdv ct) ⟨us, []⟩ = pure (ps.zip us))
    (hN : c.N = d.N) (hio : c.io = d.io) (hsc : c.sc = scope) (hfn : c.fnf = fun _ => true) (S : FnScope d.N ps scope) (hps : ps.length = d.n) (hiol : d.io ≤ d.n) (hg : Glob K mg c.blt c.gcs c.gts)
    (hf : c.fns = fns) (hc : chkS c d.body body = true) : EntsAt P w K mg base (k + 1) (fns ++ [(x, d.n)]) (fs ++ [runF (look fs) d]) :=
  E.snoc ⟨hmg, fd, ps, hps, Fd.kp, Fd.bindsN hb, def_ok (ρ := look fs) Fd hN hio hsc hfn S hps hiol hg (by rw [hf]; exact E.at_) hc⟩ (Nat.le_refl _)
/-- a def that is never asked -/
theorem EntsAt.bad {x : Str} {params : Arguments} {body : List Stmt} {scope : Scope} {fd : FuncData} {N ps : List Str} (E : EntsAt P w K mg base k fns fs) (hmg : mg x = some (.ref (He.ga K x))) (Fd : FunD K x x params body scope [] [] (He.ga K x) fd)
    (hb : ∀ (kV doc pm : Value) (an : Option Addr) (cdv ct : Value) (us : List Value), us.length = ps.length → bindArgs (PySem.W.fnOf x x params body scope .none kV doc pm an cdv ct) ⟨us, []⟩ = pure (ps.zip us)) (S : FnScope N ps scope) :
    EntsAt P w K mg base (k + 1) (fns ++ [(x, ps.length)]) (fs ++ [default]) :=
  E.snoc ⟨hmg, fd, ps, rfl, Fd.kp, Fd.bindsN hb, Fd.ok S (fun vs H Q E h => h.1) fun cdv A outer s H vs Q E hr h => by
    obtain ⟨_, _, _, _, _, _, post⟩ := h
    exact post.elim⟩ (Nat.le_refl _)
/-- the law's def, at the law's script -/
theorem law_sp {fn : Fn} (hio : fn.io = 0) (hT : ∀ ns : List Int, ns.length ≤ 63 → fn.F [(.scr (ns.map .int), 0)] = .ok (.bl true) 0 []) {H : Hp} {a : Addr} {ns : List Int} (hl : ns.length ≤ 63) (hq : SqL K H a (ns.map V.int)) :
    spL K fn 1 [.ref a] H (fun v _ => v = .bl true) (fun _ _ _ => False) := by
  refine ⟨⟨rfl, H, [(.scr (ns.map .int), 0)], [], rfl, ⟨⟨?_, ?_, by rw [hio]; exact Nat.zero_le _⟩, .nil, fun _ h => (nomatch h), fun a o h => .inl h⟩, ?_⟩, fun _ _ _ h => h⟩
  · rw [hio]; exact .nil
  · rw [hio]
    refine .cons (.scr (fun H' h => ?_) (ints_rep ns)) .nil
    rcases hq with q | q
    · exact .inl (h _ q)
    · exact .inr q
  · rw [hT ns hl]
    intro v G' H' cs ds o1 o2 _ _ _ _
    obtain ⟨r, _⟩ := o2.flat (G' := G') rfl
    cases r
    rfl
end
end
end Pv
namespace Pv
open PySem PySem.Spec PyProof.Rows L2
/-! ## plain laws of the evaluator -/
theorem floop_inv {t : T} {b : Ev → Res Fl} (P : Nat → Ev → Prop) : ∀ {ds : List D} {env : Ev} {k : Nat}, P k env → (∀ i d env, ds[i]? = some d → P (k + i) env → ∃ env1 env2, bindT t d 0 env = some env1 ∧ (b env1 = .ok .nx env2 ∨ b env1 = .ok .cnt env2) ∧ P (k + i + 1) env2) →
    ∃ env', floop t b ds env = .ok .nx env' ∧ P (k + ds.length) env'
  | [], env, k, h, _ => ⟨env, rfl, h⟩
  | d :: ds, env, k, h, st => by
    obtain ⟨env1, env2, h1, h2, h3⟩ := st 0 d env rfl h
    obtain ⟨env', h4, h5⟩ := floop_inv P (ds := ds) (env := env2) (k := k + 1) h3 fun i d env hd hp => by
      have := st (i + 1) d env (by simpa using hd) (by rw [show k + (i + 1) = k + 1 + i by omega]; exact hp)
      rw [show k + (i + 1) + 1 = k + 1 + i + 1 by omega] at this
      exact this
    refine ⟨env', ?_, by rw [List.length_cons, show k + (ds.length + 1) = k + 1 + ds.length by omega]; exact h5⟩
    show (match bindT t d 0 env with
      | none => (Res.bad : Res Fl)
      | some env1 => match b env1 with
        | .ok .nx env2 => floop t b ds env2
        | .ok .cnt env2 => floop t b ds env2
        | .ok .brk env2 => .ok .nx env2
        | r => r) = _
    rw [h1]
    rcases h2 with h2 | h2 <;> (dsimp only; rw [h2]; exact h4)
/-- a comprehension without a test -/
theorem cloop_inv {ρ : Nat → Fn} {n : Nat} {own : List Nat} {t : T} {env0 : Ev} {e : Ev → Res (D × Nat)} (P : Nat → Ev → Prop) (R : Nat → D → Prop) : ∀ {ds : List D} {env : Ev} {k : Nat}, P k env →
    (∀ i d env, ds[i]? = some d → P (k + i) env → ∃ env1 p env2, bindT t d 0 (wipeE own env) = some env1 ∧ e env1 = .ok p env2 ∧ okd n p = true ∧ R (k + i) p.1 ∧ P (k + i + 1) (rst own env0 env2)) →
    ∃ ys env', cloop n own t env0 (evOT ρ .no) e ds env = .ok ys env' ∧ P (k + ds.length) env' ∧ ys.length = ds.length ∧ ∀ i y, ys[i]? = some y → R (k + i) y
  | [], env, k, h, _ => ⟨[], env, rfl, h, rfl, fun i y h => by simp at h⟩
  | d :: ds, env, k, h, st => by
    obtain ⟨env1, p, env2, h1, h2, h3, h4, h5⟩ := st 0 d env rfl h
    obtain ⟨ys, env', h6, h7, h8, h9⟩ := cloop_inv (ρ := ρ) (n := n) (own := own) (t := t) (env0 := env0) (e := e) P R (ds := ds) (env := rst own env0 env2) (k := k + 1) h5 fun i d env hd hp => by
      have := st (i + 1) d env (by simpa using hd) (by rw [show k + (i + 1) = k + 1 + i by omega]; exact hp)
      rw [show k + (i + 1) = k + 1 + i by omega] at this
      exact this
    refine ⟨p.1 :: ys, env', ?_, by rw [List.length_cons, show k + (ds.length + 1) = k + 1 + ds.length by omega]; exact h7, congrArg (· + 1) h8, fun i y hy => ?_⟩
    · show (match bindT t d 0 (wipeE own env) with
        | none => (Res.bad : Res (List D))
        | some env1 => match evOT ρ .no env1 with
          | .ok true env2 => (match e env2 with
            | .ok p env3 => if okd n p = true then (cloop n own t env0 (evOT ρ .no) e ds (rst own env0 env3)).bind fun ys env4 => .ok (p.1 :: ys) env4 else .bad
            | _ => .bad)
          | .ok false env2 => cloop n own t env0 (evOT ρ .no) e ds (rst own env0 env2)
          | _ => .bad) = _
      rw [h1]
      show (match e env1 with
        | .ok p env3 => if okd n p = true then (cloop n own t env0 (evOT ρ .no) e ds (rst own env0 env3)).bind fun ys env4 => .ok (p.1 :: ys) env4 else .bad
        | _ => .bad) = _
      rw [h2]
      show (if okd n p = true then (cloop n own t env0 (evOT ρ .no) e ds (rst own env0 env2)).bind fun ys env4 => .ok (p.1 :: ys) env4 else .bad) = _
      rw [if_pos h3, h6]
      rfl
    · cases i with
      | zero => cases hy; exact h4
      | succ i =>
        have := h9 i y (by simpa using hy)
        rw [show k + 1 + i = k + (i + 1) by omega] at this
        exact this
/-! ### the shape that == asks for -/
mutual
def dLe : Nat → D → Bool
  | _, .non => true | _, .bl _ => true | _, .int _ => true | _, .str s => PyData.strOk (sv s)
  | k + 1, .lst xs => dLeL k xs
  | k + 1, .tup xs => dLeL k xs
  | _, _ => false
def dLeL : Nat → List D → Bool
  | _, [] => true
  | k, d :: ds => dLe k d && dLeL k ds
end
mutual
theorem dLe_ok : ∀ {k : Nat} {d : D}, dLe k d = true → plain d = true ∧ (py d).canLay0 = true ∧ (py d).depth ≤ k
  | _, .non, _ => ⟨rfl, rfl, Nat.zero_le _⟩
  | _, .bl _, _ => ⟨rfl, rfl, Nat.zero_le _⟩
  | _, .int _, _ => ⟨rfl, rfl, Nat.zero_le _⟩
  | _, .str _, h => ⟨rfl, by unfold dLe at h; unfold py; simpa [PyData.canLay0] using h, Nat.zero_le _⟩
  | k + 1, .lst xs, h => by
    have h : dLeL k xs = true := by unfold dLe at h; exact h
    obtain ⟨h1, h2, h3⟩ := dLeL_ok h
    refine ⟨by unfold plain; exact h1, by unfold py; simpa [PyData.canLay0] using h2, ?_⟩
    unfold py
    simp only [PyData.depth]
    omega
  | k + 1, .tup xs, h => by
    have h : dLeL k xs = true := by unfold dLe at h; exact h
    obtain ⟨h1, h2, h3⟩ := dLeL_ok h
    refine ⟨by unfold plain; exact h1, by unfold py; simpa [PyData.canLay0] using h2, ?_⟩
    unfold py
    simp only [PyData.depth]
    omega
  | 0, .lst _, h => by unfold dLe at h; cases h
  | 0, .tup _, h => by unfold dLe at h; cases h
  | 0, .scr _, h => by unfold dLe at h; cases h
  | _ + 1, .scr _, h => by unfold dLe at h; cases h
  | 0, .dic _ _, h => by unfold dLe at h; cases h
  | _ + 1, .dic _ _, h => by unfold dLe at h; cases h
  | 0, .exn _ _, h => by unfold dLe at h; cases h
  | _ + 1, .exn _ _, h => by unfold dLe at h; cases h
  | 0, .raw _, h => by unfold dLe at h; cases h
  | _ + 1, .raw _, h => by unfold dLe at h; cases h
  | 0, .fn _, h => by unfold dLe at h; cases h
  | _ + 1, .fn _, h => by unfold dLe at h; cases h
theorem dLeL_ok : ∀ {k : Nat} {ds : List D}, dLeL k ds = true → plainL ds = true ∧ PyData.canLayAll0 (pyL ds) = true ∧ PyData.depthAll (pyL ds) ≤ k
  | _, [], _ => ⟨rfl, rfl, Nat.zero_le _⟩
  | k, d :: ds, h => by
    have h : (dLe k d && dLeL k ds) = true := by unfold dLeL at h; exact h
    obtain ⟨h1, h2⟩ := and2 h
    obtain ⟨a1, a2, a3⟩ := dLe_ok h1
    obtain ⟨b1, b2, b3⟩ := dLeL_ok h2
    refine ⟨by unfold plainL; rw [a1, b1]; rfl, by unfold pyL; simp [PyData.canLayAll0, a2, b2], ?_⟩
    unfold pyL
    simp only [PyData.depthAll]
    omega
end
theorem shp_ok {k : Nat} {d : D} (h : dLe k d = true) (hk : k ≤ 64) : shp d = true := by
  obtain ⟨h1, h2, h3⟩ := dLe_ok h
  unfold shp SeqAt.shaped
  rw [h1, h2, decide_eq_true (Nat.le_trans h3 hk)]
  rfl
theorem oEq_refl {k : Nat} {d : D} (h : dLe k d = true) (hk : k ≤ 64) : oEq d d = some true := by
  obtain ⟨h1, h2, h3⟩ := dLe_ok h
  have e : PyData.eqv (py d) (py d) = true := SeqAt.eqv_refl _ h2
  unfold oEq
  split
  · simp
  · rw [shp_ok h hk, if_pos (by rfl), e]
theorem dLeL_all {k : Nat} : ∀ {ds : List D}, (∀ d ∈ ds, dLe k d = true) → dLeL k ds = true
  | [], _ => rfl
  | d :: ds, h => by
    unfold dLeL
    rw [h d List.mem_cons_self, dLeL_all fun e he => h e (List.mem_cons_of_mem _ he)]
    rfl
theorem at0 {α : Type} (x : α) (l : List α) : L2.atI (x :: l) 0 = some x := by simp [L2.atI, ixN]
theorem at1 {α : Type} (x y : α) (l : List α) : L2.atI (x :: y :: l) 1 = some y := by
  unfold L2.atI ixN
  rw [if_pos (by decide), if_pos (by simp only [List.length_cons]; omega)]
  rfl
theorem at2 {α : Type} (x y z : α) (l : List α) : L2.atI (x :: y :: z :: l) 2 = some z := by
  unfold L2.atI ixN
  rw [if_pos (by decide), if_pos (by simp only [List.length_cons]; omega)]
  rfl
theorem at_ok {ds : List D} {r : Int} (h0 : 0 ≤ r) (h1 : r < ds.length) : ∃ d ∈ ds, L2.atI ds r = some d := by
  have hlt : r.toNat < ds.length := by omega
  refine ⟨ds[r.toNat], List.getElem_mem hlt, ?_⟩
  unfold L2.atI ixN
  rw [if_pos h0, if_pos h1]
  simp [hlt]
theorem oEq_int (i j : Int) : oEq (.int i) (.int j) = some (decide (i = j)) := by
  show (if (shp (.int i) && shp (.int j)) = true then some (PyData.eqv (.int i) (.int j)) else none) = _
  rw [shp_ok (k := 0) (d := .int i) rfl (by decide), shp_ok (k := 0) (d := .int j) rfl (by decide), if_pos (show (true && true) = true from rfl)]
  by_cases h : i = j
  · subst h; simp [PyData.eqv]
  · simp [PyData.eqv, h]
theorem oEq_str (x y : List Nat) : oEq (.str x) (.str y) = some (decide (x = y)) := rfl
end Pv
namespace Pv
open PySem PySem.Spec PyProof.Rows L2
/-! ## the evaluator, from left to right (rows for simp) -/
section
variable {ρ : Nat → Fn}
/- continuations, by name, so that nothing is unfolded ahead of its time -/
def kSeq (ρ : Nat → Fn) (r : S) (x : Res Fl) : Res Fl := match x with
  | .ok .nx env1 => evS ρ r env1
  | r => r
def kBlkM (ρ : Nat → Fn) (r : S) (o : Option Ev) : Res Fl := match o with
  | some env2 => evS ρ r env2
  | none => .bad
def kBlk (ρ : Nat → Fn) (ks fx : List Nat) (r : S) (env : Ev) (x : Res Fl) : Res Fl := match x with
  | .ok .nx e' => kBlkM ρ r (mergeE ks fx 0 env e')
  | _ => .bad
def kSet (i : Nat) (p : D × Nat) (env : Ev) : Res Fl := if i < env.length then .ok .nx (env.set i (some p)) else .bad
def kUnpR (o : Option Ev) : Res Fl := match o with
  | some env2 => .ok .nx env2
  | none => .bad
def kUnp (t : T) (p : D × Nat) (env : Ev) : Res Fl := kUnpR (bindT t p.1 p.2 env)
def kIf (ρ : Nat → Fn) (a b : S) (t : Bool) (env : Ev) : Res Fl := if t then evS ρ a env else evS ρ b env
def kFor (ρ : Nat → Fn) (t : T) (b : S) (ds : List D) (env : Ev) : Res Fl := floop t (evS ρ b) ds env
def kRet (p : D × Nat) (env : Ev) : Res Fl := .ok (.ret p.1 p.2) env
def kEx (_ : D × Nat) (env : Ev) : Res Fl := .ok .nx env
def kCons2 (p : D × Nat) (ps : List (D × Nat)) (env : Ev) : Res (List (D × Nat)) := .ok (p :: ps) env
def kCons (ρ : Nat → Fn) (r : Es) (p : D × Nat) (env : Ev) : Res (List (D × Nat)) := (evEs ρ r env).bind (kCons2 p)
def kOp (o : Op) (ps : List (D × Nat)) (env : Ev) : Res (D × Nat) := (opSem o (ps.map (·.1))).res env
def kTest (p : D × Nat) (env : Ev) : Res Bool := OBt (truth p.1) env
def vSlot (s : Option Slot) (env : Ev) : Res (D × Nat) := match s with
  | some (some (d, 0)) => .ok (d, 0) env
  | some (some (d, k + 1)) => if flat d then .ok (d, 0) env else .bad
  | _ => .bad
def vFrz (i : Nat) (s : Option Slot) (env : Ev) : Res (D × Nat) := match s with
  | some (some (d, _)) => .ok (d, 0) (env.set i (some (d, 0)))
  | _ => .bad
def vMv (i : Nat) (s : Option Slot) (env : Ev) : Res (D × Nat) := match s with
  | some (some p) => .ok p (env.set i none)
  | _ => .bad
def vCst (o : Option D) (env : Ev) : Res (D × Nat) := match o with
  | some d => .ok (d, 0) env
  | none => .bad
def kLend (env : Ev) (r : Res (D × Nat)) : Res (D × Nat) := match r with
  | .ok p _ => if full p.2 p.1 then .ok p env else .bad
  | .exc x _ => .exc x env
  | .bad => .bad
def kLendT (env : Ev) (r : Res Bool) : Res Bool := match r with
  | .ok b _ => .ok b env
  | .exc x _ => .exc x env
  | .bad => .bad
def kAndO (ρ : Nat → Fn) (b : E) (p : D × Nat) (o : Option Bool) (env : Ev) : Res (D × Nat) := match o with
  | some true => (evP ρ b).1 env
  | some false => .ok p env
  | none => .bad
def kAnd (ρ : Nat → Fn) (b : E) (p : D × Nat) (env : Ev) : Res (D × Nat) := kAndO ρ b p (truth p.1) env
def kOrO (ρ : Nat → Fn) (b : E) (p : D × Nat) (o : Option Bool) (env : Ev) : Res (D × Nat) := match o with
  | some true => .ok p env
  | some false => (evP ρ b).1 env
  | none => .bad
def kOr (ρ : Nat → Fn) (b : E) (p : D × Nat) (env : Ev) : Res (D × Nat) := kOrO ρ b p (truth p.1) env
def kAndT (ρ : Nat → Fn) (b : E) (t : Bool) (env : Ev) : Res Bool := if t then (evP ρ b).2 env else .ok false env
def kOrT (ρ : Nat → Fn) (b : E) (t : Bool) (env : Ev) : Res Bool := if t then .ok true env else (evP ρ b).2 env
def kNotO (o : Option Bool) (env : Ev) : Res (D × Nat) := match o with
  | some b => .ok (.bl (!b), 0) env
  | none => .bad
def kNot (p : D × Nat) (env : Ev) : Res (D × Nat) := kNotO (truth p.1) env
def kNotT (t : Bool) (env : Ev) : Res Bool := .ok (!t) env
def kLst (n : Nat) (ps : List (D × Nat)) (env : Ev) : Res (D × Nat) := if ps.all (okd n) && decide (ps.length ≤ big) then .ok (.lst (ps.map (·.1)), n + 1) env else .bad
def kTup (n : Nat) (ps : List (D × Nat)) (env : Ev) : Res (D × Nat) := if ps.all (okd n) && decide (ps.length ≤ big) then .ok (.tup (ps.map (·.1)), n + 1) env else .bad
def kCall (ρ : Nat → Fn) (j : Nat) (ps : List (D × Nat)) (env : Ev) : Res (D × Nat) := if (ρ j).io == 0 then retC ((ρ j).F (ps.map freeze1)) env else .bad
def kOut (is : List Nat) (env : Ev) (r : FR) : Res (D × Nat) := match r with
  | .ok d k outs => .ok (d, k) (putSlots is outs (wipeE is env))
  | .exc x outs => .exc x (putSlots is outs (wipeE is env))
  | .bad => .bad
def kCioQ (ρ : Nat → Fn) (j : Nat) (is : List Nat) (ps : List (D × Nat)) (env : Ev) (o : Option (List (D × Nat))) : Res (D × Nat) := match o with
  | none => .bad
  | some qs => kOut is env ((ρ j).F (qs ++ ps.map freeze1))
def kCio (ρ : Nat → Fn) (j : Nat) (is : List Nat) (ps : List (D × Nat)) (env : Ev) : Res (D × Nat) := kCioQ ρ j is ps env (getSlots env is)
def kCitR (env : Ev) (r : FR) : Res (D × Nat) := match r with
  | .ok d k [_] => .ok (d, k) env
  | .exc x [_] => .exc x env
  | _ => .bad
def kCit2 (ρ : Nat → Fn) (j : Nat) (q : D × Nat) (ps : List (D × Nat)) (env : Ev) : Res (D × Nat) := if (ρ j).io == 1 then kCitR env ((ρ j).F (q :: ps.map freeze1)) else .bad
def kCit (ρ : Nat → Fn) (j : Nat) (es : Es) (q : D × Nat) (env : Ev) : Res (D × Nat) := (evEs ρ es env).bind (kCit2 ρ j q)
def kComp2 (n : Nat) (ys : List D) (env : Ev) : Res (D × Nat) := .ok (.lst ys, n + 1) env
def kComp (ρ : Nat → Fn) (n : Nat) (own : List Nat) (t : T) (c : OE) (e : E) (xs : List D) (env : Ev) : Res (D × Nat) := if ownOk own env then (cloop n own t env (evOT ρ c) (evP ρ e).1 xs env).bind (kComp2 n) else .bad
def kIdxS (x : D) (env : Ev) (s : Option Slot) : Res (D × Nat) := match s with
  | some (some (d, 1)) => (oIx d x).res env
  | _ => .bad
def kIdx (i : Nat) (p : D × Nat) (env : Ev) : Res (D × Nat) := kIdxS p.1 env env[i]?
def kMutO (i k : Nat) (env : Ev) (o : Option ((D × Nat) × List D)) : Res (D × Nat) := match o with
  | some (p, ds') => .ok p (env.set i (some (.lst ds', k + 1)))
  | none => .bad
def kMutS (i : Nat) (m : Mt) (ps : List (D × Nat)) (env : Ev) (s : Option Slot) : Res (D × Nat) := match s with
  | some (some (.lst ds, k + 1)) => kMutO i k env (mutL m k ds ps)
  | _ => .bad
def kMut (i : Nat) (m : Mt) (ps : List (D × Nat)) (env : Ev) : Res (D × Nat) := kMutS i m ps env env[i]?
def kSetO (i k : Nat) (env : Ev) (o : Option D) : Res Fl := match o with
  | some d' => .ok .nx (env.set i (some (d', k + 1)))
  | none => .bad
def kSetS (i : Nat) (p q : D × Nat) (env : Ev) (s : Option Slot) : Res Fl := match s with
  | some (some (d, k + 1)) => kSetO i k env (setL k d p q)
  | _ => .bad
def kSetix2 (i : Nat) (p q : D × Nat) (env : Ev) : Res Fl := kSetS i p q env env[i]?
def kSetix (ρ : Nat → Fn) (i : Nat) (ix : E) (p : D × Nat) (env : Ev) : Res Fl := ((evP ρ ix).1 env).bind (kSetix2 i p)
def kSlc3 (d : D) (l h : Option Int) (env : Ev) : Res (D × Nat) := (oSlc d l h).res env
def kSlc2 (ρ : Nat → Fn) (hi : OE) (d : D) (l : Option Int) (env : Ev) : Res (D × Nat) := (evO ρ hi env).bind (kSlc3 d l)
def kSlc (ρ : Nat → Fn) (lo hi : OE) (p : D × Nat) (env : Ev) : Res (D × Nat) := (evO ρ lo env).bind (kSlc2 ρ hi p.1)
def kRng1 (p : D × Nat) (env : Ev) : Res (List D) := match p.1 with
  | .int j => if -(2 ^ 62) ≤ j ∧ j.toNat ≤ big then .ok (rangeL 0 1 j.toNat) env else .bad
  | _ => .bad
def kItr (p : D × Nat) (env : Ev) : Res (List D) := match p.1 with
  | .lst ds => .ok ds env
  | .tup ds => .ok ds env
  | .str s => if s.length ≤ big then .ok (s.map fun c => D.str [c]) env else .bad
  | _ => .bad
theorem r_bind_ok {α β : Type} {a : α} {e : Ev} {g : α → Ev → Res β} : (Res.ok a e).bind g = g a e := rfl
theorem r_res_some {p : D × Nat} {e : Ev} : OR.res (some p) e = .ok p e := rfl
theorem r_OBt {b : Bool} {e : Ev} : OBt (some b) e = .ok b e := rfl
theorem s_nil {env : Ev} : evS ρ .nil env = .ok .nx env := rfl
theorem s_one {a r : S} {env : Ev} : evS ρ (.one a r) env = kSeq ρ r (evS ρ a env) := rfl
theorem k_nx {r : S} {env : Ev} : kSeq ρ r (.ok .nx env) = evS ρ r env := rfl
theorem k_ret {r : S} {d : D} {k : Nat} {env : Ev} : kSeq ρ r (.ok (.ret d k) env) = .ok (.ret d k) env := rfl
theorem k_brk {r : S} {env : Ev} : kSeq ρ r (.ok .brk env) = .ok .brk env := rfl
theorem k_cnt {r : S} {env : Ev} : kSeq ρ r (.ok .cnt env) = .ok .cnt env := rfl
theorem s_blk {n : Nat} {is ks fx : List Nat} {b r : S} {env : Ev} : evS ρ (.blk n is ks fx b r) env = kBlk ρ ks fx r env (evS ρ b (lendE is 0 env)) := rfl
theorem k_blk {ks fx : List Nat} {r : S} {env e' : Ev} : kBlk ρ ks fx r env (.ok .nx e') = kBlkM ρ r (mergeE ks fx 0 env e') := rfl
theorem k_blkM {r : S} {env : Ev} : kBlkM ρ r (some env) = evS ρ r env := rfl
theorem s_kill {is : List Nat} {r : S} {env : Ev} : evS ρ (.kill is r) env = evS ρ r (wipeE is env) := rfl
theorem s_frz {is : List Nat} {r : S} {env : Ev} : evS ρ (.frz is r) env = evS ρ r (frzE is env) := rfl
theorem s_set {i : Nat} {e : E} {env : Ev} : evS ρ (.set i e) env = ((evP ρ e).1 env).bind (kSet i) := rfl
theorem s_unp {t : T} {e : E} {env : Ev} : evS ρ (.unp t e) env = ((evP ρ e).1 env).bind (kUnp t) := rfl
theorem k_unp {env : Ev} : kUnpR (some env) = .ok .nx env := rfl
theorem s_ifs {c : E} {a b : S} {env : Ev} : evS ρ (.ifs c a b) env = ((evP ρ c).2 env).bind (kIf ρ a b) := rfl
theorem k_ifT {a b : S} {env : Ev} : kIf ρ a b true env = evS ρ a env := rfl
theorem k_ifF {a b : S} {env : Ev} : kIf ρ a b false env = evS ρ b env := rfl
theorem s_fr {t : T} {it : I} {b : S} {env : Ev} : evS ρ (.fr t it b) env = (evI ρ it env).bind (kFor ρ t b) := rfl
theorem s_ret {e : E} {env : Ev} : evS ρ (.ret e) env = ((evP ρ e).1 env).bind kRet := rfl
theorem s_ex {e : E} {env : Ev} : evS ρ (.ex e) env = ((evP ρ e).1 env).bind kEx := rfl
theorem s_setix {i : Nat} {ix e : E} {env : Ev} : evS ρ (.setix i ix e) env = if env[i]?.join.isSome then ((evP ρ e).1 env).bind (kSetix ρ i ix) else .bad := rfl
theorem s_brk {env : Ev} : evS ρ .brk env = .ok .brk env := rfl
theorem s_cnt {env : Ev} : evS ρ .cnt env = .ok .cnt env := rfl
theorem s_pass {env : Ev} : evS ρ .pass env = .ok .nx env := rfl
theorem e_var {i : Nat} {env : Ev} : (evP ρ (.var i)).1 env = vSlot env[i]? env := rfl
theorem k_var {d : D} {env : Ev} : vSlot (some (some (d, 0))) env = .ok (d, 0) env := rfl
theorem e_frz {i : Nat} {env : Ev} : (evP ρ (.frz i)).1 env = vFrz i env[i]? env := rfl
theorem k_frz {i k : Nat} {d : D} {env : Ev} : vFrz i (some (some (d, k))) env = .ok (d, 0) (env.set i (some (d, 0))) := rfl
theorem e_mv {i : Nat} {env : Ev} : (evP ρ (.mv i)).1 env = vMv i env[i]? env := rfl
theorem k_mv {i : Nat} {p : D × Nat} {env : Ev} : vMv i (some (some p)) env = .ok p (env.set i none) := rfl
theorem e_cst {c : Const} {env : Ev} : (evP ρ (.cst c)).1 env = vCst (cD c) env := rfl
theorem k_cst {d : D} {env : Ev} : vCst (some d) env = .ok (d, 0) env := rfl
theorem c_int {i : Int} : cD (.int i) = some (.int i) := rfl
theorem c_bl {b : Bool} : cD (.bool b) = some (.bl b) := rfl
theorem c_non : cD .none = some .non := rfl
theorem c_str {s : Str} : cD (.str s) = some (.str s.cps.toList) := rfl
theorem e_op {o : Op} {es : Es} {env : Ev} : (evP ρ (.op o es)).1 env = (evEs ρ es env).bind (kOp o) := rfl
theorem a_nil {env : Ev} : evEs ρ .nil env = .ok [] env := rfl
theorem a_cons {a : E} {r : Es} {env : Ev} : evEs ρ (.cons a r) env = ((evP ρ a).1 env).bind (kCons ρ r) := rfl
theorem e_lend {is : List Nat} {e : E} {env : Ev} : (evP ρ (.lend is e)).1 env = kLend env ((evP ρ e).1 (lendE is 0 env)) := rfl
theorem t_lend {is : List Nat} {e : E} {env : Ev} : (evP ρ (.lend is e)).2 env = kLendT env ((evP ρ e).2 (lendE is 0 env)) := rfl
theorem k_lend {p : D × Nat} {env e1 : Ev} : kLend env (.ok p e1) = if full p.2 p.1 then .ok p env else .bad := rfl
theorem k_lendT {b : Bool} {env e1 : Ev} : kLendT env (.ok b e1) = .ok b env := rfl
theorem e_and {a b : E} {env : Ev} : (evP ρ (.and a b)).1 env = ((evP ρ a).1 env).bind (kAnd ρ b) := rfl
theorem e_or {a b : E} {env : Ev} : (evP ρ (.or a b)).1 env = ((evP ρ a).1 env).bind (kOr ρ b) := rfl
theorem e_not {a : E} {env : Ev} : (evP ρ (.not a)).1 env = ((evP ρ a).1 env).bind kNot := rfl
theorem t_and {a b : E} {env : Ev} : (evP ρ (.and a b)).2 env = ((evP ρ a).2 env).bind (kAndT ρ b) := rfl
theorem t_or {a b : E} {env : Ev} : (evP ρ (.or a b)).2 env = ((evP ρ a).2 env).bind (kOrT ρ b) := rfl
theorem t_not {a : E} {env : Ev} : (evP ρ (.not a)).2 env = ((evP ρ a).2 env).bind kNotT := rfl
theorem t_op {o : Op} {es : Es} {env : Ev} : (evP ρ (.op o es)).2 env = ((evP ρ (.op o es)).1 env).bind kTest := rfl
theorem t_var {i : Nat} {env : Ev} : (evP ρ (.var i)).2 env = ((evP ρ (.var i)).1 env).bind kTest := rfl
theorem t_call {j : Nat} {es : Es} {env : Ev} : (evP ρ (.call j es)).2 env = ((evP ρ (.call j es)).1 env).bind kTest := rfl
theorem t_cio {j : Nat} {is : List Nat} {es : Es} {env : Ev} : (evP ρ (.cio j is es)).2 env = ((evP ρ (.cio j is es)).1 env).bind kTest := rfl
theorem t_cst {c : Const} {env : Ev} : (evP ρ (.cst c)).2 env = ((evP ρ (.cst c)).1 env).bind kTest := rfl
theorem k_andTT {b : E} {env : Ev} : kAndT ρ b true env = (evP ρ b).2 env := rfl
theorem k_andTF {b : E} {env : Ev} : kAndT ρ b false env = .ok false env := rfl
theorem k_orTT {b : E} {env : Ev} : kOrT ρ b true env = .ok true env := rfl
theorem k_orTF {b : E} {env : Ev} : kOrT ρ b false env = (evP ρ b).2 env := rfl
theorem k_andOT {b : E} {p : D × Nat} {env : Ev} : kAndO ρ b p (some true) env = (evP ρ b).1 env := rfl
theorem k_andOF {b : E} {p : D × Nat} {env : Ev} : kAndO ρ b p (some false) env = .ok p env := rfl
theorem k_orOT {b : E} {p : D × Nat} {env : Ev} : kOrO ρ b p (some true) env = .ok p env := rfl
theorem k_orOF {b : E} {p : D × Nat} {env : Ev} : kOrO ρ b p (some false) env = (evP ρ b).1 env := rfl
theorem k_notO {b : Bool} {env : Ev} : kNotO (some b) env = .ok (.bl (!b), 0) env := rfl
theorem e_lst {n : Nat} {es : Es} {env : Ev} : (evP ρ (.lst n es)).1 env = (evEs ρ es env).bind (kLst n) := rfl
theorem e_tup {n : Nat} {es : Es} {env : Ev} : (evP ρ (.tup n es)).1 env = (evEs ρ es env).bind (kTup n) := rfl
theorem e_call {j : Nat} {es : Es} {env : Ev} : (evP ρ (.call j es)).1 env = (evEs ρ es env).bind (kCall ρ j) := rfl
theorem e_cio {j : Nat} {is : List Nat} {es : Es} {env : Ev} : (evP ρ (.cio j is es)).1 env = if (getSlots env is).isSome && ((ρ j).io == is.length) && nodupB is then (evEs ρ es env).bind (kCio ρ j is) else .bad := rfl
theorem k_cio {j : Nat} {is : List Nat} {ps qs : List (D × Nat)} {env : Ev} : kCioQ ρ j is ps env (some qs) = kOut is env ((ρ j).F (qs ++ ps.map freeze1)) := rfl
theorem k_out {is : List Nat} {env : Ev} {d : D} {k : Nat} {outs : List (D × Nat)} : kOut is env (.ok d k outs) = .ok (d, k) (putSlots is outs (wipeE is env)) := rfl
theorem e_cit {j : Nat} {a : E} {es : Es} {env : Ev} : (evP ρ (.cit j a es)).1 env = ((evP ρ a).1 env).bind (kCit ρ j es) := rfl
theorem k_cit {env : Ev} {d : D} {k : Nat} {o : D × Nat} : kCitR env (.ok d k [o]) = .ok (d, k) env := rfl
theorem e_comp {n : Nat} {own : List Nat} {t : T} {it : I} {c : OE} {e : E} {env : Ev} : (evP ρ (.comp n own t it c e)).1 env = (evI ρ it env).bind (kComp ρ n own t c e) := rfl
theorem e_idx {i : Nat} {e : E} {env : Ev} : (evP ρ (.idx i e)).1 env = if env[i]?.join.isSome then ((evP ρ e).1 env).bind (kIdx i) else .bad := rfl
theorem k_idx {x d : D} {env : Ev} : kIdxS x env (some (some (d, 1))) = (oIx d x).res env := rfl
theorem e_mut {i : Nat} {m : Mt} {es : Es} {env : Ev} : (evP ρ (.mut i m es)).1 env = if isOwnL env[i]? then (evEs ρ es env).bind (kMut i m) else .bad := rfl
/-! a store, a method on an inner list -/
def kPm (i k : Nat) (ps : List Pe) (d : D) (env0 env : Ev) (o : Option ((D × Nat) × List D)) : Res (D × Nat) := match o with
  | some (p, ds') => .ok p (env.set i (some (putP env0 ps d (.lst ds'), k)))
  | none => .bad
def kPm1 (i k : Nat) (ps : List Pe) (m : Mt) (d : D) (ds : List D) (env0 : Ev) (qs : List (D × Nat)) (env : Ev) : Res (D × Nat) := kPm i k ps d env0 env (mutL m (k - ps.length - 1) ds qs)
def kPm2 (ρ : Nat → Fn) (i k : Nat) (ps : List Pe) (m : Mt) (es : Es) (d : D) (env : Ev) (o : Option D) : Res (D × Nat) := match o with
  | some (.lst ds) => if ps.length < k then (evEs ρ es (env.set i none)).bind (kPm1 i k ps m d ds env) else .bad
  | _ => .bad
def kPm3 (ρ : Nat → Fn) (i : Nat) (ps : List Pe) (m : Mt) (es : Es) (env : Ev) (o : Option Slot) : Res (D × Nat) := match o with
  | some (some (d, k)) => kPm2 ρ i k ps m es d env (pathD env ps d)
  | _ => .bad
theorem e_mutp {i : Nat} {ps : List Pe} {m : Mt} {es : Es} {env : Ev} : (evP ρ (.mutp i ps m es)).1 env = kPm3 ρ i ps m es env env[i]? := by
  cases h : env[i]? with
  | none => show (match env[i]? with | some (some (d, k)) => _ | _ => Res.bad) = _; rw [h]; rfl
  | some s => cases s with
    | none => show (match env[i]? with | some (some (d, k)) => _ | _ => Res.bad) = _; rw [h]; rfl
    | some p =>
      obtain ⟨d, k⟩ := p
      show (match env[i]? with
        | some (some (d, k)) => (match pathD env ps d with
          | some (.lst ds) => if ps.length < k then (evEs ρ es (env.set i none)).bind fun qs env1 => (match mutL m (k - ps.length - 1) ds qs with
            | some (p, ds') => .ok p (env1.set i (some (putP env ps d (.lst ds'), k)))
            | none => .bad) else .bad
          | _ => .bad)
        | _ => .bad) = _
      rw [h]
      rfl
def kPth2 (env : Ev) (o : Option D) : Res (D × Nat) := match o with
  | some d2 => .ok (d2, 0) env
  | none => .bad
def kPth (ps : List Pe) (env : Ev) (o : Option Slot) : Res (D × Nat) := match o with
  | some (some (d, k)) => if k = ps.length then kPth2 env (pathD env ps d) else .bad
  | _ => .bad
theorem e_pth {i : Nat} {ps : List Pe} {env : Ev} : (evP ρ (.pth i ps)).1 env = kPth ps env env[i]? := by
  cases h : env[i]? with
  | none => show (match env[i]? with | some (some (d, k)) => _ | _ => Res.bad) = _; rw [h]; rfl
  | some s => cases s with
    | none => show (match env[i]? with | some (some (d, k)) => _ | _ => Res.bad) = _; rw [h]; rfl
    | some p =>
      obtain ⟨d, k⟩ := p
      show (match env[i]? with
        | some (some (d, k)) => if k = ps.length then (match pathD env ps d with
          | some d2 => Res.ok (d2, 0) env
          | none => Res.bad) else Res.bad
        | _ => Res.bad) = _
      rw [h]
      rfl
theorem k_pth {k : Nat} {ps : List Pe} {env : Ev} {d : D} : kPth ps env (some (some (d, k))) = if k = ps.length then kPth2 env (pathD env ps d) else .bad := rfl
theorem k_pth2 {env : Ev} {d : D} : kPth2 env (some d) = .ok (d, 0) env := rfl
theorem k_pm3 {i k : Nat} {ps : List Pe} {m : Mt} {es : Es} {env : Ev} {d : D} : kPm3 ρ i ps m es env (some (some (d, k))) = kPm2 ρ i k ps m es d env (pathD env ps d) := rfl
theorem k_pm2 {i k : Nat} {ps : List Pe} {m : Mt} {es : Es} {env : Ev} {d : D} {ds : List D} : kPm2 ρ i k ps m es d env (some (.lst ds)) = if ps.length < k then (evEs ρ es (env.set i none)).bind (kPm1 i k ps m d ds env) else .bad := rfl
theorem k_pm {i k : Nat} {ps : List Pe} {env0 env : Ev} {d : D} {p : D × Nat} {ds : List D} : kPm i k ps d env0 env (some (p, ds)) = .ok p (env.set i (some (putP env0 ps d (.lst ds), k))) := rfl
def kSp (i k : Nat) (ps : List Pe) (d : D) (env : Ev) (o : Option D) : Res Fl := match o with
  | some d' => .ok .nx (env.set i (some (putP env ps d d', k)))
  | none => .bad
def kSp1 (i k : Nat) (ps : List Pe) (d : D) (p : D × Nat) (j : Int) (env : Ev) (o : Option D) : Res Fl := match o with
  | some dl => if ps.length < k then kSp i k ps d env (setL (k - ps.length - 1) dl p (.int j, 0)) else .bad
  | none => .bad
def kSp2 (i k : Nat) (ps : List Pe) (d : D) (p : D × Nat) (env : Ev) (o : Option Int) : Res Fl := match o with
  | some j => kSp1 i k ps d p j env (pathD env ps d)
  | none => .bad
def kSp3 (i : Nat) (ps : List Pe) (ix : Pe) (p : D × Nat) (env : Ev) (o : Option Slot) : Res Fl := match o with
  | some (some (d, k)) => kSp2 i k ps d p env (evPe env ix)
  | _ => .bad
def kSp4 (i : Nat) (ps : List Pe) (ix : Pe) (p : D × Nat) (env : Ev) : Res Fl := kSp3 i ps ix p env env[i]?
theorem s_setp {i : Nat} {ps : List Pe} {ix : Pe} {e : E} {env : Ev} : evS ρ (.setp i ps ix e) env = ((evP ρ e).1 env).bind (kSp4 i ps ix) := rfl
theorem k_sp3 {i k : Nat} {ps : List Pe} {ix : Pe} {p : D × Nat} {env : Ev} {d : D} : kSp3 i ps ix p env (some (some (d, k))) = kSp2 i k ps d p env (evPe env ix) := rfl
theorem k_sp2 {i k : Nat} {ps : List Pe} {p : D × Nat} {env : Ev} {d : D} {j : Int} : kSp2 i k ps d p env (some j) = kSp1 i k ps d p j env (pathD env ps d) := rfl
theorem k_sp1 {i k : Nat} {ps : List Pe} {p : D × Nat} {env : Ev} {d dl : D} {j : Int} : kSp1 i k ps d p j env (some dl) = if ps.length < k then kSp i k ps d env (setL (k - ps.length - 1) dl p (.int j, 0)) else .bad := rfl
theorem k_sp {i k : Nat} {ps : List Pe} {env : Ev} {d d' : D} : kSp i k ps d env (some d') = .ok .nx (env.set i (some (putP env ps d d', k))) := rfl
theorem pe_k {env : Ev} {j : Int} : evPe env (.k j) = some j := rfl
theorem pe_v {env : Ev} {i : Nat} {j : Int} {k : Nat} (h : env[i]? = some (some (.int j, k))) : evPe env (.v i) = some j := by
  show (match env[i]? with | some (some (.int j, _)) => some j | _ => none) = some j
  rw [h]
theorem path_nil {env : Ev} {d : D} : pathD env [] d = some d := rfl
theorem path_cons {env : Ev} {p : Pe} {r : List Pe} {d : D} : pathD env (p :: r) d = (pathD env r d).bind fun d1 => (evPe env p).bind fun j => (atD d1 j).map (·.2) := rfl
theorem put_nil {env : Ev} {d x : D} : putP env [] d x = x := rfl
theorem put_cons {env : Ev} {p : Pe} {r : List Pe} {d x d1 d2 : D} {j : Int} {n : Nat} (h1 : pathD env r d = some d1) (h2 : evPe env p = some j) (h3 : atD d1 j = some (n, d2)) : putP env (p :: r) d x = putP env r d (setD d1 n x) := by
  show (match (pathD env r d).bind fun d1 => (evPe env p).bind fun j => (atD d1 j).map fun q => (d1, q.1) with
    | some (d1, n) => putP env r d (setD d1 n x)
    | none => d) = _
  rw [h1, Option.bind_some, h2, Option.bind_some, h3]; rfl
theorem k_mutS {i k : Nat} {m : Mt} {ps : List (D × Nat)} {env : Ev} {ds : List D} : kMutS i m ps env (some (some (.lst ds, k + 1))) = kMutO i k env (mutL m k ds ps) := rfl
theorem k_mutS1 {i : Nat} {m : Mt} {ps : List (D × Nat)} {env : Ev} {ds : List D} : kMutS i m ps env (some (some (.lst ds, 1))) = kMutO i 0 env (mutL m 0 ds ps) := rfl
theorem k_mutO {i k : Nat} {env : Ev} {p : D × Nat} {ds : List D} : kMutO i k env (some (p, ds)) = .ok p (env.set i (some (.lst ds, k + 1))) := rfl
theorem k_setS1 {i : Nat} {p q : D × Nat} {env : Ev} {d : D} : kSetS i p q env (some (some (d, 1))) = kSetO i 0 env (setL 0 d p q) := rfl
theorem k_setO {i k : Nat} {env : Ev} {d : D} : kSetO i k env (some d) = .ok .nx (env.set i (some (d, k + 1))) := rfl
theorem e_slc {a : E} {lo hi : OE} {env : Ev} : (evP ρ (.slc a lo hi)).1 env = ((evP ρ a).1 env).bind (kSlc ρ lo hi) := rfl
theorem o_no {env : Ev} : evO ρ .no env = .ok none env := rfl
theorem i_rng1 {a : E} {env : Ev} : evI ρ (.rng1 a) env = ((evP ρ a).1 env).bind kRng1 := rfl
theorem k_rng1 {j : Int} {k : Nat} {env : Ev} : kRng1 (.int j, k) env = if -(2 ^ 62) ≤ j ∧ j.toNat ≤ big then .ok (rangeL 0 1 j.toNat) env else .bad := rfl
theorem i_ex {a : E} {env : Ev} : evI ρ (.ex a) env = ((evP ρ a).1 env).bind kItr := rfl
theorem k_itrL {ds : List D} {k : Nat} {env : Ev} : kItr (.lst ds, k) env = .ok ds env := rfl
theorem r_fl {d : D} {k : Nat} {env : Ev} {io : Nat} : endF io (.ok (.ret d k) env) = (match getSlots env (upto 0 io) with
    | some outs => .ok d k outs
    | none => .bad) := rfl
theorem r_runF {d : Df} {ps : List (D × Nat)} (h : ps.length = d.n) : (runF ρ d).F ps = endF d.io (evS ρ d.body (inits d.io ps ++ List.replicate (d.N.length - d.n) none)) := if_pos h
end
end Pv
namespace Pv
open PySem PySem.Spec PyProof.Rows L2
/-! ## a number drawn from a deck of pools -/
def isP3 : D → Bool
  | .lst [.int _, .int _, .int _] => true
  | _ => false
def drawN (c s : Int) : Int := ((c % 99999999977 + 700001 * (s + 1)) % 99999999947 * ((c % 99999999977 + 700001 * (s + 1)) % 99999999947) % 99999999821)
def drawR (c b s m : Int) : Int := if b = 1 ∧ 0 < c then c % m else drawN c s * (drawN c s + 19) % 9999999967 / 13 % m
def drawP (c b s m : Int) : D := if b = 1 ∧ 0 < c then .lst [.int (c / m), .int b, .int s] else .lst [.int c, .int b, .int (s + 1)]
def drawF : Fn := ⟨1, fun ps => match ps with
  | [(.lst [.lst pools, .int n], 3), (.int m, _)] => if 0 < m ∧ m < 1073741824 ∧ 0 < pools.length ∧ pools.all isP3 = true then
      (match pools[(n % pools.length).toNat]? with
      | some (.lst [.int c, .int b, .int s]) => .ok (.int (drawR c b s m)) 0 [(.lst [.lst (pools.set (n % pools.length).toNat (drawP c b s m)), .int (n + 1)], 3)]
      | _ => .bad) else .bad
  | _ => .bad⟩
theorem draw_inv {as : List (D × Nat)} (h : drawF.F as ≠ .bad) : ∃ pools n m kk c b s, as = [(.lst [.lst pools, .int n], 3), (.int m, kk)] ∧ 0 < m ∧ m < 1073741824 ∧ 0 < pools.length ∧ pools.all isP3 = true ∧ pools[(n % pools.length).toNat]? = some (.lst [.int c, .int b, .int s]) ∧
    drawF.F as = .ok (.int (drawR c b s m)) 0 [(.lst [.lst (pools.set (n % pools.length).toNat (drawP c b s m)), .int (n + 1)], 3)] := by
  unfold drawF at h ⊢
  dsimp only at h ⊢
  split at h
  · rename_i pools n m kk
    split at h
    · rename_i hc
      obtain ⟨h1, h2, h3, h4⟩ := hc
      split at h
      · rename_i c b s e
        refine ⟨pools, n, m, kk, c, b, s, rfl, h1, h2, h3, h4, e, ?_⟩
        rw [if_pos ⟨h1, h2, h3, h4⟩]
      · exact (h rfl).elim
    · exact (h rfl).elim
  · exact (h rfl).elim
def dr1 : S := .set 2 (.op .ix (.cons (.op .ix (.cons (.var 0) (.cons (.cst (.int 0)) .nil))) (.cons (.op (.bin .mod) (.cons (.op .ix (.cons (.var 0) (.cons (.cst (.int 1)) .nil))) (.cons (.op (.b1 .len) (.cons (.op .ix (.cons (.var 0) (.cons (.cst (.int 0)) .nil))) .nil)) .nil))) .nil)))
abbrev ix2 (i : Nat) (j : Int) : E := .idx i (.cst (.int j))
abbrev bn (o : BOp) (a b : E) : E := .op (.bin o) (.cons a (.cons b .nil))
def dr2 : S := .one (.setix 0 (.cst (.int 1)) (bn .add (ix2 0 1) (.cst (.int 1)))) (.one (.ifs (.and (.op (.cmp .eq) (.cons (ix2 2 1) (.cons (.cst (.int 1)) .nil))) (.op (.cmp .gt) (.cons (ix2 2 0) (.cons (.cst (.int 0)) .nil))))
    (.one (.set 4 (bn .mod (ix2 2 0) (.var 1))) (.one (.setix 2 (.cst (.int 0)) (bn .fdiv (ix2 2 0) (.var 1))) (.one (.ret (.var 4)) .nil))) .nil)
  (.one (.setix 2 (.cst (.int 2)) (bn .add (ix2 2 2) (.cst (.int 1)))) (.one (.set 3 (bn .mod (bn .add (bn .mod (ix2 2 0) (.cst (.int 99999999977))) (bn .mul (.cst (.int 700001)) (ix2 2 2))) (.cst (.int 99999999947))))
  (.one (.set 3 (bn .mod (bn .mul (.var 3) (.var 3)) (.cst (.int 99999999821)))) (.one (.set 3 (bn .mod (bn .mul (.var 3) (bn .add (.var 3) (.cst (.int 19)))) (.cst (.int 9999999967))))
  (.one (.ret (bn .mod (bn .fdiv (.var 3) (.cst (.int 13))) (.var 1))) .nil))))))
theorem dr1_ev (ρ : Nat → Fn) {qs : List Addr} {n m : Int} (hq : 0 < qs.length) : ∃ q, qs[(n % qs.length).toNat]? = some q ∧ evS ρ dr1 [some (.lst [.lst (qs.map .raw), .int n], 0), some (.int m, 0), none, none, none] = .ok .nx [some (.lst [.lst (qs.map .raw), .int n], 0), some (.int m, 0), some (.raw q, 0), none, none] := by
  have h0 : 0 ≤ n % (qs.length : Int) := Int.emod_nonneg _ (by omega)
  have h1 : n % (qs.length : Int) < qs.length := Int.emod_lt_of_pos _ (by omega)
  have hlt : (n % (qs.length : Int)).toNat < qs.length := by omega
  have e : L2.atI (qs.map D.raw) (n % qs.length) = some (.raw qs[(n % (qs.length : Int)).toNat]) := by
    unfold L2.atI ixN
    rw [if_pos h0, if_pos (by rw [List.length_map]; exact h1)]
    simp [hlt]
  refine ⟨qs[(n % (qs.length : Int)).toNat], by simp [hlt], ?_⟩
  simp [dr1, r_bind_ok, r_res_some, s_set, e_op, a_nil, a_cons, e_var, k_var, e_cst, k_cst, c_int, at0, at1, kSet, kCons, kCons2, kOp, opSem, oIx, oBin, oB1, e, hq]
theorem dr2_ev (ρ : Nat → Fn) {b0 : Addr} {n m c b s : Int} (h0 : 0 < m) (h1 : m < 1073741824) : ∃ x y, evS ρ dr2 [some (.lst [.raw b0, .int n], 1), some (.int m, 0), some (.lst [.int c, .int b, .int s], 1), none, none] =
    .ok (.ret (.int (drawR c b s m)) 0) [some (.lst [.raw b0, .int (n + 1)], 1), some (.int m, 0), some (drawP c b s m, 1), x, y] := by
  have hr1 : ∀ x : Int, -18446744073709551616 < x % 99999999947 := fun x => by omega
  have hr2 : ∀ x : Int, x % 99999999947 < 18446744073709551616 := fun x => by omega
  have hr3 : ∀ x : Int, -18446744073709551616 < x % 99999999821 := fun x => by omega
  have hr4 : ∀ x : Int, x % 99999999821 < 18446744073709551616 := fun x => by omega
  by_cases hb : b = 1
  · by_cases hc : 0 < c
    · simp [dr2, r_bind_ok, r_res_some, r_OBt, s_nil, s_one, k_nx, k_ret, s_set, s_ifs, k_ifT, k_ifF, s_ret, s_setix, e_var, k_var, e_cst, k_cst, c_int, e_op, t_op, t_and, k_andTT, k_andTF, a_nil, a_cons, e_idx, k_idx, k_setS1, k_setO, at0, at1, at2, oEq_int, kSet, kRet, kCons, kCons2, kOp, kTest, kIdx, kSetix, kSetix2, opSem, oBin, oCmp, oIx, setL, okd, flat, truth, ixN, hb, hc, h0, h1, drawR, drawP]
    · simp [dr2, r_bind_ok, r_res_some, r_OBt, s_nil, s_one, k_nx, k_ret, s_set, s_ifs, k_ifT, k_ifF, s_ret, s_setix, e_var, k_var, e_cst, k_cst, c_int, e_op, t_op, t_and, k_andTT, k_andTF, a_nil, a_cons, e_idx, k_idx, k_setS1, k_setO, at0, at1, at2, oEq_int, kSet, kRet, kCons, kCons2, kOp, kTest, kIdx, kSetix, kSetix2, opSem, oBin, oCmp, oIx, setL, okd, flat, truth, ixN, hb, hc, h0, h1, drawR, drawP, drawN, hr1, hr2, hr3, hr4]
  · simp [dr2, r_bind_ok, r_res_some, r_OBt, s_nil, s_one, k_nx, k_ret, s_set, s_ifs, k_ifT, k_ifF, s_ret, s_setix, e_var, k_var, e_cst, k_cst, c_int, e_op, t_op, t_and, k_andTT, k_andTF, a_nil, a_cons, e_idx, k_idx, k_setS1, k_setO, at0, at1, at2, oEq_int, kSet, kRet, kCons, kCons2, kOp, kTest, kIdx, kSetix, kSetix2, opSem, oBin, oCmp, oIx, setL, okd, flat, truth, ixN, hb, h0, h1, drawR, drawP, drawN, hr1, hr2, hr3, hr4]
section
variable {c : Ctx} {K : Fg} {G G1 H H1 : Hp}
theorem Own.lst {k : Nat} {v : V} {ds : List D} {bs : List Addr} (o : Own K G H (k + 1) v (.lst ds) bs) : ∃ a xs cs, v = .ref a ∧ H a = some (.lst xs) ∧ OwnL (Own K G H k) xs ds cs ∧ bs = a :: cs := by
  rcases o with ⟨f, r, e⟩ | ⟨a, xs, es, cs, e1, e2, ha, r, e⟩ | ⟨a, xs, es, cs, e1, e2, ha, r, e⟩ | ⟨a, ks, xs, es, cs, e1, e2, l, ha, r, e⟩ | ⟨a, ks, xs, es, cs, e1, e2, l, ha, r, e⟩
  · cases f
  · cases e2; exact ⟨a, xs, cs, e1, ha, r, e⟩
  · cases e2
  · cases e2
  · cases e2
theorem OwnL.atJ {R R' : V → D → List Addr → Prop} : ∀ {vs : List V} {ds : List D} {bs : List Addr} {j : Nat} {d : D}, OwnL R vs ds bs → bs.Nodup → ds[j]? = some d → ∃ v b, vs[j]? = some v ∧ R v d b ∧ (∀ x ∈ b, x ∈ bs) ∧
    ∀ d', R' v d' b → (∀ v d c, R v d c → (∀ x ∈ c, x ∈ bs ∧ x ∉ b) → R' v d c) → OwnL R' vs (ds.set j d') bs
  | _, _, _, _, _, .nil, _, h => by simp at h
  | _, _, _, 0, _, .cons (b := b) (bs := bs) a r, nd, h => by
    simp at h; subst h
    obtain ⟨n1, n2, n3⟩ := List.nodup_append.mp nd
    refine ⟨_, b, rfl, a, fun x hx => List.mem_append_left _ hx, fun d' h1 h2 => OwnL.cons h1 (r.imp fun v d c hc o => h2 v d c o fun x hx => ⟨List.mem_append_right _ (hc x hx), fun z => n3 x z x (hc x hx) rfl⟩)⟩
  | _, _, _, j + 1, d, .cons (b := b0) (bs := bs) a r, nd, h => by
    obtain ⟨n1, n2, n3⟩ := List.nodup_append.mp nd
    obtain ⟨v, b, h1, h2, h3, h4⟩ := OwnL.atJ (R' := R') (j := j) (d := d) r n2 (by simpa using h)
    refine ⟨v, b, by simpa using h1, h2, fun x hx => List.mem_append_right _ (h3 x hx), fun d' h5 h6 => OwnL.cons (h6 _ _ _ a fun x hx => ⟨List.mem_append_left _ hx, fun z => n3 x hx x (h3 x z) rfl⟩) (h4 d' h5 fun v d c o hc => h6 v d c o fun x hx => ⟨List.mem_append_right _ (hc x hx).1, (hc x hx).2⟩)⟩
theorem refs_of : ∀ {vs : List V} {ds : List D} {bs : List Addr}, OwnL (Own K G H 1) vs ds bs → ds.all isP3 = true → ∃ qs : List Addr, vs = qs.map V.ref
  | _, _, _, .nil, _ => ⟨[], rfl⟩
  | _, _, _, .cons (d := d) a r, h => by
    rw [List.all_cons] at h
    obtain ⟨h1, h2⟩ := and2 h
    obtain ⟨qs, rfl⟩ := refs_of r h2
    cases d with
    | lst ds =>
      obtain ⟨q, xs, cs, rfl, _, _, _⟩ := a.lst
      exact ⟨q :: qs, rfl⟩
    | _ => cases h1
theorem raws : ∀ qs : List Addr, RepL K G (qs.map V.ref) (qs.map D.raw)
  | [] => .nil
  | q :: qs => .cons (.raw q) (raws qs)
theorem int3 {v : V} {c b s : Int} {bs : List Addr} (o : Own K G H 1 v (.lst [.int c, .int b, .int s]) bs) : ∃ q, v = .ref q ∧ H q = some (.lst [.int c, .int b, .int s]) ∧ bs = [q] := by
  obtain ⟨q, xs, cs, rfl, hq, r, e⟩ := o.lst
  have hcs := own0_nil r
  subst hcs
  have rr := r.rep fun v d b _ o => o.1
  cases rr with | cons a rr => cases rr with | cons b rr => cases rr with | cons c rr => cases rr; cases a; cases b; cases c; exact ⟨q, rfl, hq, e⟩
theorem own3 {q : Addr} {c b s : Int} (h : H q = some (.lst [.int c, .int b, .int s])) : Own K G H 1 (.ref q) (.lst [.int c, .int b, .int s]) [q] :=
  .inr (.inl ⟨q, _, _, [], rfl, rfl, h, RepL.own0 (.cons (.int _) (.cons (.int _) (.cons (.int _) .nil))), rfl⟩)
theorem draw_ok {P : Program} {w : World} {mg : Str → Option Value} {base : Heap} {x : Str} {params : Arguments} {st1 : Stmt} {rest : List Stmt} {scope : Scope} {fd : FuncData} {N ps : List Str} {k : Nat}
    (Fd : FunD K x x params (st1 :: rest) scope [] [] (He.ga K x) fd) (hN : c.N = N) (hN5 : N.length = 5) (hio : c.io = 1) (hsc : c.sc = scope) (hfn : c.fnf = fun _ => true) (S : FnScope N ps scope) (hps : ps.length = 2) (hg : Glob K mg c.blt c.gcs c.gts)
    (hf : c.fns = []) (h1 : chk1 c dr1 st1 = true) (h2 : chkS { c with io := 3 } dr2 rest = true) : FnOk P w K mg base (L2.CX P w) (k + 1) (He.ga K x) fd ps (spF K drawF ps.length) := by
  refine Fd.ok S (fun vs H Q E h => h.1) fun cdv A outer s H vs Q E hr hsp => ?_
  obtain ⟨hvl, G, as, bs, hal, o0, post⟩ := hsp
  have noF : ∀ (j : Nat) (y : Str) (n : Nat), c.fns[j]? = some (y, n) → False := fun j y n h => by rw [hf, List.getElem?_nil] at h; cases h
  have xc : XC (fun _ => default) c (cxOf (L2.CX P w) P w K mg base N x scope (He.ga K x) cdv A outer s H E) :=
    ⟨hN.symm, S.nd, hsc.symm, hfn.symm, rfl, (by have := hr.un; show (A.deeper (envOfC x scope s.heap.objs.size (He.ga K x) cdv)).units + 65 < cLine; omega), hg.blt, hg.gcs, hg.gts, fun j x n h => (noF j x n h).elim⟩
  have xcB : XC (fun _ => default) { c with io := 3 } (cxOf (L2.CX P w) P w K mg base N x scope (He.ga K x) cdv A outer s H E) :=
    ⟨hN.symm, S.nd, hsc.symm, hfn.symm, rfl, xc.un, hg.blt, hg.gcs, hg.gts, fun j x n h => (noF j x n h).elim⟩
  have tk : Takes (cxOf (L2.CX P w) P w K mg base N x scope (He.ga K x) cdv A outer s H E) (fun cls dd _ H => E cls dd H) := takes_of rfl rfl rfl rfl
  refine ⟨_, pss_sem, ?_⟩
  have post : PostF K 1 vs bs G H (drawF.F as) Q E := post
  have o1 : OwnArgs K G H 1 vs as bs := o0.own
  obtain ⟨pools, n, m, kk, c0, b1, s0, rfl, hm, hm2, hpl, hp3, hpe, hF⟩ := draw_inv (as := as) fun z => by rw [z] at post; exact post
  rw [hF] at post
  -- what was handed in
  obtain ⟨va, vb, rfl⟩ : ∃ va vb, vs = [va, vb] := by
    rw [hps] at hvl
    match vs, hvl with
    | [va, vb], _ => exact ⟨va, vb, rfl⟩
  obtain ⟨p1, p2, _⟩ := o1
  have p1 : OwnP K G H [va] [(.lst [.lst pools, .int n], 3)] bs := p1
  have p2 : RepL K G [vb] [.int m] := p2
  cases p2 with
  | cons pb p2 =>
  cases pb
  clear p2
  have own : Own K G H 3 va (.lst [.lst pools, .int n]) bs := by
    cases p1 with
    | cons o r => cases r; rw [List.append_nil]; exact o
  clear p1
  obtain ⟨a, xs, cs, rfl, ha, oL, rfl⟩ := own.lst
  cases oL with
  | cons oP oL =>
  rename_i y1 xs1 bP bs1
  cases oL with
  | cons oI oL =>
  cases oL
  obtain ⟨ri, e⟩ := oI.flat (G' := G) rfl
  subst e
  cases ri
  obtain ⟨b0, ys, cs1, rfl, hb0, oQ, rfl⟩ := oP.lst
  have nd := o0.nd
  have gn := o0.gn
  simp only [List.append_nil] at nd gn
  simp only [List.append_nil] at post
  obtain ⟨qs, rfl⟩ := refs_of oQ hp3
  have hql : qs.length = pools.length := by have := oQ.length; rwa [List.length_map] at this
  obtain ⟨na, nd1⟩ := List.nodup_cons.mp nd
  obtain ⟨nb, nd2⟩ := List.nodup_cons.mp nd1
  obtain ⟨q, hq, ev1⟩ := dr1_ev (fun _ => default) (qs := qs) (n := n) (m := m) (by omega)
  rw [hql] at hq
  obtain ⟨v, bq, hv, ov, hbq, fin⟩ := oQ.atJ (R' := fun v d b => ∃ G2 H2 : Hp, True) nd2 hpe
  have ev : v = .ref q := by
    rw [List.getElem?_map, hq] at hv
    exact (Option.some.inj hv).symm
  subst ev
  obtain ⟨q', e1, hHq, rfl⟩ := int3 ov
  cases e1
  clear fin
  have hqc : q ∈ cs1 := hbq q List.mem_cons_self
  have hqa : q ≠ a := fun z => na (z ▸ List.mem_cons_of_mem _ hqc)
  have hqb : q ≠ b0 := fun z => nb (z ▸ hqc)
  have hab : a ≠ b0 := fun z => na (z ▸ List.mem_cons_self)
  have hst : L2.start N [V.ref a, V.int m] = [some (.ref a), some (.int m), none, none, none] := by
    unfold L2.start
    rw [hN5]
    rfl
  rw [hst]
  -- the first view: all as it stands, the pools by their places
  have R1 : Rel K (addG G H [a, b0]) [some (.lst [.lst (qs.map .raw), .int n], 0), some (.int m, 0), none, none, none] [some (.ref a), some (.int m), none, none, none] H (fun _ => []) := by
    refine ⟨rfl, fun i d k e => ?_, fun _ => .nil, fun _ _ _ h => (nomatch h), fun _ _ h => (nomatch h), fun _ _ h => (nomatch h), fun z o e => ?_⟩
    · match i, e with
      | 0, e =>
        cases e
        refine ⟨.ref a, rfl, .lst (.inl (by rw [addG_in (by simp)]; exact ha)) (.cons (.lst (.inl (by rw [addG_in (by simp)]; exact hb0)) (raws qs)) (.cons (.int n) .nil)), rfl⟩
      | 1, e => cases e; exact ⟨.int m, rfl, .int m, rfl⟩
      | 2, e => cases e
      | 3, e => cases e
      | 4, e => cases e
      | i + 5, e => simp at e
    · by_cases hz : z ∈ [a, b0]
      · rw [addG_in hz] at e; exact .inl e
      · rw [addG_out hz] at e; exact o0.sub z o e
  refine SSv.of (pss_cons ps_sem pss_sem) (snd_1 trivial dr1 c _ _ st1 xc tk (passes_of rfl) h1 _ [some (.ref a), some (.int m), none, none, none] _ _ H _ ⟨R1, fun _ _ => rfl⟩ _ ?_)
  rw [ev1]
  intro σ1 G1 H1 f1 R2 S1
  have keep1 : ∀ z o, H z = some o → H1 z = some o := fun z o e => S1.keep z o e fun i hi => nomatch hi
  have s0' : σ1[0]? = some (some (.ref a)) := by rw [R2.lo 0 (.inl (by rw [hio]; decide))]; rfl
  have s1' : σ1[1]? = some (some (.int m)) := by
    obtain ⟨v, h3, h4⟩ := R2.r.slot 1 (.int m) 0 rfl
    obtain ⟨h5, _⟩ := h4
    cases h5; exact h3
  have s2' : σ1[2]? = some (some (.ref q)) := by
    obtain ⟨v, h3, h4⟩ := R2.r.slot 2 (.raw q) 0 rfl
    obtain ⟨h5, _⟩ := h4
    cases h5; exact h3
  have sl : σ1.length = 5 := R2.r.len.symm
  -- the second view: the deck's own list, the pool's own list
  have f2a : ∀ i z, z ∈ (fun i : Nat => if i = 0 then [a] else if i = 2 then [q] else ([] : List Addr)) i → (i = 0 ∧ z = a) ∨ (i = 2 ∧ z = q) := fun i z h => by
    dsimp only at h
    split at h
    · exact .inl ⟨by assumption, by simpa using h⟩
    · split at h
      · exact .inr ⟨by assumption, by simpa using h⟩
      · cases h
  have ga : G a = none := gn a List.mem_cons_self
  have gq : G q = none := gn q (List.mem_cons_of_mem _ (List.mem_cons_of_mem _ hqc))
  have R3 : Rel K G [some (.lst [.raw b0, .int n], 1), some (.int m, 0), some (.lst [.int c0, .int b1, .int s0], 1), none, none] σ1 H1 (fun i => if i = 0 then [a] else if i = 2 then [q] else []) := by
    refine ⟨sl.symm, fun i d k e => ?_, fun i => ?_, fun i j z hi hj => ?_, fun i z h => ?_, fun i z h => ?_, fun z o e => ?_⟩
    · match i, e with
      | 0, e => cases e; exact ⟨.ref a, s0', .inr (.inl ⟨a, _, _, [], rfl, rfl, keep1 _ _ ha, RepL.own0 (.cons (.raw b0) (.cons (.int n) .nil)), rfl⟩)⟩
      | 1, e => cases e; exact ⟨.int m, s1', .int m, rfl⟩
      | 2, e => cases e; exact ⟨.ref q, s2', own3 (keep1 _ _ hHq)⟩
      | 3, e => cases e
      | 4, e => cases e
      | i + 5, e => simp at e
    · show (if i = 0 then [a] else if i = 2 then [q] else ([] : List Addr)).Nodup
      split
      · simp
      · split <;> simp
    · rcases f2a i z hi with ⟨e1, e2⟩ | ⟨e1, e2⟩ <;> rcases f2a j z hj with ⟨e3, e4⟩ | ⟨e3, e4⟩
      · rw [e1, e3]
      · exact absurd (e4.symm.trans e2) hqa
      · exact absurd (e2.symm.trans e4) hqa
      · rw [e1, e3]
    · rcases f2a i z h with ⟨_, e⟩ | ⟨_, e⟩
      · rw [e]; exact ga
      · rw [e]; exact gq
    · rcases f2a i z h with ⟨_, e⟩ | ⟨_, e⟩
      · rw [e, keep1 _ _ ha]; exact fun z => nomatch z
      · rw [e, keep1 _ _ hHq]; exact fun z => nomatch z
    · rcases o0.sub z o e with h | ⟨h3, ob, h⟩
      · exact .inl (keep1 _ _ h)
      · exact .inr ⟨h3, ob, keep1 _ _ h⟩
  obtain ⟨y3, y4, ev2⟩ := dr2_ev (fun _ => default) (b0 := b0) (n := n) (m := m) (c := c0) (b := b1) (s := s0) hm hm2
  refine snd_S trivial dr2 { c with io := 3 } _ _ rest xcB tk (passes_of rfl) h2 _ σ1 σ1 G H1 _ ⟨R3, fun _ _ => rfl⟩ _ ?_
  rw [ev2]
  intro v σ2 G2 H2 f3 bs2 R4 T4 S2
  have t0 : σ2[0]? = some (some (.ref a)) := by rw [R4.lo 0 (.inl (by show 0 < 3; decide))]; exact s0'
  have t2 : σ2[2]? = some (some (.ref q)) := by rw [R4.lo 2 (.inl (by show 2 < 3; decide))]; exact s2'
  have keep2 : ∀ z o, H z = some o → z ≠ a → z ≠ q → H2 z = some o := fun z o e h3 h4 => S2.keep z o (keep1 z o e) fun i hi => by
    rcases f2a i z hi with ⟨_, e⟩ | ⟨_, e⟩
    · exact h3 e
    · exact h4 e
  have hA : H2 a = some (.lst [.ref b0, .int (n + 1)]) ∧ f3 0 = [a] := by
    obtain ⟨v, h3, h4⟩ := R4.r.slot 0 (.lst [.raw b0, .int (n + 1)]) 1 rfl
    rw [t0] at h3
    cases h3
    obtain ⟨a', xs, cs, e1, h5, r, e2⟩ := h4.lst
    cases e1
    have hcs := own0_nil r
    subst hcs
    have rr := r.rep fun v d b _ o => o.1
    cases rr with
    | cons ra rr => cases rr with
      | cons rb rr => cases rr; cases ra; cases rb; exact ⟨h5, e2⟩
  have hQ : Own K G2 H2 1 (.ref q) (drawP c0 b1 s0 m) [q] ∧ f3 2 = [q] := by
    obtain ⟨v, h3, h4⟩ := R4.r.slot 2 (drawP c0 b1 s0 m) 1 rfl
    rw [t2] at h3
    cases h3
    have e : f3 2 = [q] := by
      unfold drawP at h4
      split at h4
      · obtain ⟨q', e1, _, e2⟩ := int3 h4; cases e1; exact e2
      · obtain ⟨q', e1, _, e2⟩ := int3 h4; cases e1; exact e2
    rw [e] at h4
    exact ⟨h4, e⟩
  have le2 : Le G G2 := S2.grow
  -- put together
  obtain ⟨v', bq', hv', ov', _, fin⟩ := oQ.atJ (R' := Own K G2 H2 1) nd2 hpe
  have ev' : v' = .ref q := by
    rw [List.getElem?_map, hq] at hv'
    exact (Option.some.inj hv').symm
  subst ev'
  obtain ⟨q', e1, _, rfl⟩ := int3 ov'
  cases e1
  have oQ2 := fin (drawP c0 b1 s0 m) hQ.1 fun v d c o hc => o.keep le2 fun z hz u e => keep2 z u e (fun y => na (y ▸ List.mem_cons_of_mem _ (hc z hz).1)) fun y => (hc z hz).2 (y ▸ List.mem_cons_self)
  have gn2 : ∀ z ∈ a :: b0 :: cs1, G2 z = none := fun z hz => by
    by_cases h3 : z = a
    · rw [h3]; exact R4.r.gn 0 a (by rw [hA.2]; exact List.mem_cons_self)
    by_cases h4 : z = q
    · rw [h4]; exact R4.r.gn 2 q (by rw [hQ.2]; exact List.mem_cons_self)
    cases e : G2 z with
    | none => rfl
    | some o =>
      rcases S2.newG z (by rw [e]; exact fun y => nomatch y) with y | ⟨j, y⟩ | y
      · exact absurd (gn z hz) y
      · rcases f2a j z y with ⟨_, e2⟩ | ⟨_, e2⟩
        · exact absurd e2 h3
        · exact absurd e2 h4
      · have : H z ≠ none := own.there z (by simpa using hz)
        cases e2 : H z with
        | none => exact absurd e2 this
        | some u => rw [keep1 z u e2] at y; cases y
  refine post v G2 H2 (a :: b0 :: cs1) [] ?_ ?_ (by rw [List.append_nil]; exact nd) (by rw [List.append_nil]; exact gn2) R4.r.sub ⟨fun z o e hz => ?_, le2, fun i z hz => .inl ⟨i, hz⟩, fun z hz => (nomatch hz), fun z hz => ?_, fun z hz => ?_⟩
  · have o3 : Own K G2 H2 3 (.ref a) (.lst [.lst (pools.set (n % pools.length).toNat (drawP c0 b1 s0 m)), .int (n + 1)]) (a :: b0 :: cs1) := by
      refine .inr (.inl ⟨a, _, _, b0 :: cs1, rfl, rfl, hA.1, ?_, rfl⟩)
      have o4 : Own K G2 H2 2 (.ref b0) (.lst (pools.set (n % pools.length).toNat (drawP c0 b1 s0 m))) (b0 :: cs1) := .inr (.inl ⟨b0, _, _, cs1, rfl, rfl, keep2 b0 _ hb0 (Ne.symm hab) (Ne.symm hqb), oQ2, rfl⟩)
      have := OwnL.cons o4 (OwnL.cons (Own.of_flat (K := K) (G := G2) (H := H2) (k := 2) (.int (n + 1)) rfl) OwnL.nil)
      simpa using this
    have := OwnP.cons o3 OwnP.nil
    simpa using this
  · obtain ⟨r, e⟩ := T4.own
    exact ⟨r, rfl⟩
  · refine keep2 z o e (fun y => hz 0 (one_mem (y ▸ List.mem_cons_self))) fun y => hz 0 (one_mem (y ▸ List.mem_cons_of_mem _ (List.mem_cons_of_mem _ hqc)))
  · rcases S2.newG z hz with y | ⟨j, y⟩ | y
    · exact .inl y
    · refine .inr (.inl ⟨0, one_mem ?_⟩)
      rcases f2a j z y with ⟨_, e2⟩ | ⟨_, e2⟩
      · rw [e2]; exact List.mem_cons_self
      · rw [e2]; exact List.mem_cons_of_mem _ (List.mem_cons_of_mem _ hqc)
    · refine .inr (.inr ?_)
      cases e2 : H z with
      | none => rfl
      | some u => rw [keep1 z u e2] at y; cases y
  · cases e2 : H z with
    | none => exact absurd e2 hz
    | some u => exact S2.there z (by rw [keep1 z u e2]; exact fun y => nomatch y)
end
end Pv
namespace Pv
open PySem PySem.Spec PyProof.Rows L2
/-! ## lists of ints -/
abbrev ils (l : List Int) : D := .lst (l.map .int)
theorem py_ints : ∀ l : List Int, pyL (l.map .int) = l.map PyData.int
  | [] => rfl
  | i :: l => by show .int i :: pyL (l.map .int) = _; rw [py_ints l]; rfl
theorem ils_dle (l : List Int) : dLe 1 (ils l) = true := by
  show dLeL 0 (l.map .int) = true
  exact dLeL_all fun d hd => by
    obtain ⟨i, _, rfl⟩ := List.mem_map.mp hd
    rfl
theorem eqvAll_ints : ∀ a b : List Int, PyData.eqvAll (a.map PyData.int) (b.map PyData.int) = decide (a = b)
  | [], [] => by simp [PyData.eqvAll]
  | [], _ :: _ => by simp [PyData.eqvAll]
  | _ :: _, [] => by simp [PyData.eqvAll]
  | x :: a, y :: b => by
    have ih := eqvAll_ints a b
    by_cases h : x = y
    · subst h; simp [PyData.eqvAll, PyData.eqv, ih]
    · simp [PyData.eqvAll, PyData.eqv, h]
theorem oEq_ils (a b : List Int) : oEq (ils a) (ils b) = some (decide (a = b)) := by
  show (if (shp (ils a) && shp (ils b)) = true then some (PyData.eqv (py (ils a)) (py (ils b))) else none) = _
  rw [shp_ok (ils_dle a) (by decide), shp_ok (ils_dle b) (by decide), if_pos (show (true && true) = true from rfl)]
  show some (PyData.eqvAll (pyL (a.map .int)) (pyL (b.map .int))) = _
  rw [py_ints, py_ints, eqvAll_ints]
theorem oIn_ils (x : Int) (l : List Int) : oIn (.int x) (ils l) = some (decide (x ∈ l)) := by
  show (if (shp (.int x) && shp (ils l)) = true then some ((l.map D.int).any fun z => PyData.eqv (py z) (.int x)) else none) = _
  rw [shp_ok (k := 0) (d := .int x) rfl (by decide), shp_ok (ils_dle l) (by decide), if_pos (show (true && true) = true from rfl)]
  congr 1
  induction l with
  | nil => simp
  | cons y l ih =>
    show (PyData.eqv (.int y) (.int x) || (l.map D.int).any fun z => PyData.eqv (py z) (.int x)) = _
    rw [ih]
    by_cases h : y = x
    · subst h; simp [PyData.eqv]
    · have h' : ¬ x = y := fun e => h e.symm
      simp [PyData.eqv, h, h']
theorem intsOf_map : ∀ l : List Int, intsOf (l.map .int) = some l
  | [] => rfl
  | i :: l => by show (intsOf (l.map .int)).map (i :: ·) = _; rw [intsOf_map l]; rfl
theorem atI_ils {l : List Int} {i : Int} (h0 : 0 ≤ i) (h1 : i < l.length) : L2.atI (l.map D.int) i = some (.int (l.getD i.toNat 0)) := by
  have hlt : i.toNat < l.length := by omega
  unfold L2.atI ixN
  rw [if_pos h0, if_pos (by rw [List.length_map]; exact h1)]
  simp [hlt, List.getD_eq_getElem?_getD]
/-- a comprehension whose test and term change nothing -/
theorem cloop_pure {ρ : Nat → Fn} {n : Nat} {own : List Nat} {t : T} {env0 : Ev} {c : Ev → Res Bool} {e : Ev → Res (D × Nat)} {env : Ev} (f : D → Option D) : ∀ {ds : List D}, (∀ d ∈ ds, ∃ env1 b env2, bindT t d 0 (wipeE own env) = some env1 ∧ c env1 = .ok b env2 ∧
      (if b = true then ∃ p env3, e env2 = .ok p env3 ∧ okd n p = true ∧ f d = some p.1 ∧ rst own env0 env3 = env else f d = none ∧ rst own env0 env2 = env)) → cloop n own t env0 c e ds env = .ok (ds.filterMap f) env
  | [], _ => rfl
  | d :: ds, h => by
    obtain ⟨env1, b, env2, h1, h2, h3⟩ := h d List.mem_cons_self
    have ih := cloop_pure (ρ := ρ) (n := n) (own := own) (t := t) (env0 := env0) (c := c) (e := e) (env := env) f (ds := ds) fun x hx => h x (List.mem_cons_of_mem _ hx)
    show (match bindT t d 0 (wipeE own env) with
      | none => (Res.bad : Res (List D))
      | some env1 => match c env1 with
        | .ok true env2 => (match e env2 with
          | .ok p env3 => if okd n p = true then (cloop n own t env0 c e ds (rst own env0 env3)).bind fun ys env4 => .ok (p.1 :: ys) env4 else .bad
          | _ => .bad)
        | .ok false env2 => cloop n own t env0 c e ds (rst own env0 env2)
        | _ => .bad) = _
    rw [h1]
    show (match c env1 with
      | .ok true env2 => (match e env2 with
        | .ok p env3 => if okd n p = true then (cloop n own t env0 c e ds (rst own env0 env3)).bind fun ys env4 => .ok (p.1 :: ys) env4 else .bad
        | _ => .bad)
      | .ok false env2 => cloop n own t env0 c e ds (rst own env0 env2)
      | _ => .bad) = _
    rw [h2]
    cases b with
    | true =>
      rw [if_pos rfl] at h3
      obtain ⟨p, env3, h4, h5, h6, h7⟩ := h3
      show (match e env2 with
        | .ok p env3 => if okd n p = true then (cloop n own t env0 c e ds (rst own env0 env3)).bind fun ys env4 => .ok (p.1 :: ys) env4 else .bad
        | _ => .bad) = _
      rw [h4]
      show (if okd n p = true then (cloop n own t env0 c e ds (rst own env0 env3)).bind fun ys env4 => .ok (p.1 :: ys) env4 else .bad) = _
      rw [if_pos h5, h7, ih, List.filterMap_cons, h6]
      rfl
    | false =>
      rw [if_neg Bool.false_ne_true] at h3
      obtain ⟨h4, h5⟩ := h3
      show cloop n own t env0 c e ds (rst own env0 env2) = _
      rw [h5, ih, List.filterMap_cons, h4]
theorem kcomp2 {ρ : Nat → Fn} {own : List Nat} {t : T} {c : OE} {e : E} {xs : List D} {env env2 : Ev} {ys : List D} (h1 : ownOk own env = true) (h2 : cloop 0 own t env (evOT ρ c) (evP ρ e).1 xs env = .ok ys env2) : kComp ρ 0 own t c e xs env = .ok (.lst ys, 1) env2 := by
  unfold kComp
  rw [if_pos h1, h2]
  rfl
end Pv
namespace Pv
/-! ## rows of bits and taps -/
def ones (taps row : List Int) (at_ : Int) : Int := ((taps.filter fun t => decide (t ≤ at_)).map fun t => row.getD (at_ - t).toNat 0).sum
def strewnL (taps : List Int) : List Int → List Int → List Int
  | found, [] => found
  | found, b :: r => strewnL taps (found ++ [(b + ones taps found found.length) % 2]) r
def gatheredL (taps bits : List Int) : List Int := (List.range bits.length).map fun i => (bits.getD i 0 + ones taps bits i) % 2
theorem ones_nil (row : List Int) (a : Int) : ones [] row a = 0 := rfl
theorem ones_cons (t : Int) (taps row : List Int) (a : Int) : ones (t :: taps) row a = (if t ≤ a then row.getD (a - t).toNat 0 else 0) + ones taps row a := by
  unfold ones
  by_cases h : t ≤ a
  · simp [h]
  · simp [h]
theorem ones_congr {taps r1 r2 : List Int} {a : Int} (h1 : ∀ t ∈ taps, 1 ≤ t) (h : ∀ j : Nat, (j : Int) < a → r1.getD j 0 = r2.getD j 0) : ones taps r1 a = ones taps r2 a := by
  induction taps with
  | nil => rfl
  | cons t taps ih =>
    rw [ones_cons, ones_cons, ih fun u hu => h1 u (List.mem_cons_of_mem _ hu)]
    have ht := h1 t List.mem_cons_self
    by_cases hl : t ≤ a
    · rw [if_pos hl, if_pos hl, h (a - t).toNat (by omega)]
    · rw [if_neg hl, if_neg hl]
theorem getD_app_left {l r : List Int} {i : Nat} (h : i < l.length) : (l ++ r).getD i 0 = l.getD i 0 := by
  simp [List.getD_eq_getElem?_getD, List.getElem?_append_left h]
theorem getD_app_len {l : List Int} {x : Int} : (l ++ [x]).getD l.length 0 = x := by
  simp [List.getD_eq_getElem?_getD]
theorem strewn_spec {taps : List Int} (ht : ∀ t ∈ taps, 1 ≤ t) : ∀ {r done found : List Int}, found.length = done.length → (∀ i : Nat, i < found.length → found.getD i 0 = (done.getD i 0 + ones taps found i) % 2) →
    (strewnL taps found r).length = done.length + r.length ∧ ∀ i : Nat, i < done.length + r.length → (strewnL taps found r).getD i 0 = ((done ++ r).getD i 0 + ones taps (strewnL taps found r) i) % 2
  | [], done, found, hl, h => by
    refine ⟨by show found.length = _; simpa using hl, fun i hi => ?_⟩
    rw [List.append_nil]
    exact h i (by simpa [hl] using hi)
  | b :: r, done, found, hl, h => by
    have hl2 : (found ++ [(b + ones taps found found.length) % 2]).length = (done ++ [b]).length := by simp [hl]
    obtain ⟨h1, h2⟩ := strewn_spec ht (r := r) (done := done ++ [b]) (found := found ++ [(b + ones taps found found.length) % 2]) hl2 fun i hi => by
      have hi2 : i < found.length + 1 := by simpa using hi
      have eo : ones taps (found ++ [(b + ones taps found found.length) % 2]) i = ones taps found i := ones_congr ht fun j hj => getD_app_left (by omega)
      rw [eo]
      by_cases h3 : i < found.length
      · rw [getD_app_left h3, getD_app_left (by omega)]
        exact h i h3
      · have e : i = found.length := by omega
        subst e
        rw [getD_app_len, hl, getD_app_len]
    refine ⟨by show (strewnL taps _ r).length = _; rw [h1]; simp; omega, fun i hi => ?_⟩
    have := h2 i (by simp at hi ⊢; omega)
    rw [List.append_assoc] at this
    exact this
theorem strewn_len {taps bits : List Int} (ht : ∀ t ∈ taps, 1 ≤ t) : (strewnL taps [] bits).length = bits.length := by
  have := (strewn_spec ht (r := bits) (done := []) (found := []) rfl fun i h => by simp at h).1
  simpa using this
theorem strewn_get {taps bits : List Int} (ht : ∀ t ∈ taps, 1 ≤ t) {i : Nat} (hi : i < bits.length) : (strewnL taps [] bits).getD i 0 = (bits.getD i 0 + ones taps (strewnL taps [] bits) i) % 2 := by
  have := (strewn_spec ht (r := bits) (done := []) (found := []) rfl fun i h => by simp at h).2 i (by simpa using hi)
  simpa using this
theorem gathered_len {taps bits : List Int} : (gatheredL taps bits).length = bits.length := by simp [gatheredL]
theorem gathered_get {taps bits : List Int} {i : Nat} (hi : i < bits.length) : (gatheredL taps bits).getD i 0 = (bits.getD i 0 + ones taps bits i) % 2 := by
  simp [gatheredL, List.getD_eq_getElem?_getD, hi]
/-- sums, mod 2 -/
theorem ones_add {taps x a b : List Int} {p : Int} (ht : ∀ t ∈ taps, 1 ≤ t) (h : ∀ j : Nat, (j : Int) < p → x.getD j 0 % 2 = (a.getD j 0 + b.getD j 0) % 2) : ones taps x p % 2 = (ones taps a p + ones taps b p) % 2 := by
  induction taps with
  | nil => rfl
  | cons t taps ih =>
    have ih := ih fun u hu => ht u (List.mem_cons_of_mem _ hu)
    have h1 := ht t List.mem_cons_self
    rw [ones_cons, ones_cons, ones_cons]
    by_cases hl : t ≤ p
    · have := h (p - t).toNat (by omega)
      rw [if_pos hl, if_pos hl, if_pos hl]
      omega
    · rw [if_neg hl, if_neg hl, if_neg hl]
      omega
/-- one place marked -/
def unitL (many : Nat) (one : Int) : List Int := (List.range many).map fun (i : Nat) => if (i : Int) = one then 1 else 0
theorem unit_get {many : Nat} {one : Int} {i : Nat} (hi : i < many) : (unitL many one).getD i 0 = if (i : Int) = one then 1 else 0 := by
  simp [unitL, List.getD_eq_getElem?_getD, hi]
theorem ones_unit {taps : List Int} {many : Nat} {one p : Int} (ht : ∀ t ∈ taps, 1 ≤ t) (nd : taps.Nodup) (h0 : 0 ≤ one) (hp : p ≤ many) : ones taps (unitL many one) p = if p - one ∈ taps then 1 else 0 := by
  induction taps with
  | nil => rfl
  | cons t taps ih =>
    obtain ⟨n1, n2⟩ := List.nodup_cons.mp nd
    have ih := ih (fun u hu => ht u (List.mem_cons_of_mem _ hu)) n2
    have h1 := ht t List.mem_cons_self
    rw [ones_cons, ih]
    by_cases he : p - one = t
    · have hn : p - one ∉ taps := he ▸ n1
      rw [if_pos (by omega), unit_get (by omega), if_pos (by omega), if_neg hn, if_pos (he ▸ List.mem_cons_self)]
      rfl
    · have h2 : (if t ≤ p then (unitL many one).getD (p - t).toNat 0 else 0) = 0 := by
        split
        · rw [unit_get (by omega), if_neg (by omega)]
        · rfl
      rw [h2]
      by_cases hm : p - one ∈ taps
      · rw [if_pos hm, if_pos (List.mem_cons_of_mem _ hm)]; rfl
      · rw [if_neg hm, if_neg fun z => (List.mem_cons.mp z).elim he hm]; rfl
def putL (bits places : List Int) : List Int := (List.range bits.length).map fun (i : Nat) => (bits.getD i 0 + (if (i : Int) ∈ places then 1 else 0)) % 2
def pick (n : Nat) (p : Nat → Bool) : List Int := (List.range n).filterMap fun i => if p i = true then some (i : Int) else none
def unlikeL (a b : List Int) : List Int := pick a.length fun i => decide (a.getD i 0 ≠ b.getD i 0)
def reachL (taps : List Int) (one many : Int) : List Int := sortI (one :: (taps.filter fun t => decide (one + t < many)).map (one + ·))
theorem put_len {bits places : List Int} : (putL bits places).length = bits.length := by simp [putL]
theorem put_get {bits places : List Int} {i : Nat} (hi : i < bits.length) : (putL bits places).getD i 0 = (bits.getD i 0 + (if (i : Int) ∈ places then 1 else 0)) % 2 := by
  simp [putL, List.getD_eq_getElem?_getD, hi]
theorem mem_pick {n : Nat} {p : Nat → Bool} {x : Int} : x ∈ pick n p ↔ ∃ i : Nat, i < n ∧ p i = true ∧ x = i := by
  unfold pick
  rw [List.mem_filterMap]
  constructor
  · rintro ⟨i, hi, h⟩
    split at h
    · rename_i hp
      cases h
      exact ⟨i, List.mem_range.mp hi, hp, rfl⟩
    · cases h
  · rintro ⟨i, hi, hp, rfl⟩
    exact ⟨i, List.mem_range.mpr hi, by rw [if_pos hp]⟩
theorem pick_sorted (n : Nat) (p : Nat → Bool) : (pick n p).Pairwise (· < ·) := by
  unfold pick
  rw [List.pairwise_filterMap]
  refine List.Pairwise.imp ?_ (List.pairwise_lt_range (n := n))
  intro a b h x hx y hy
  split at hx
  · split at hy
    · cases hx; cases hy; omega
    · cases hy
  · cases hx
theorem pick_congr {n : Nat} {p q : Nat → Bool} (h : ∀ i, i < n → p i = q i) : pick n p = pick n q := by
  unfold pick
  have aux : ∀ l : List Nat, (∀ i ∈ l, p i = q i) → (l.filterMap fun i => if p i = true then some (i : Int) else none) = l.filterMap fun i => if q i = true then some (i : Int) else none := by
    intro l
    induction l with
    | nil => intro _; rfl
    | cons a l ih =>
      intro h
      rw [List.filterMap_cons, List.filterMap_cons, h a List.mem_cons_self, ih fun i hi => h i (List.mem_cons_of_mem _ hi)]
  exact aux _ fun i hi => h i (List.mem_range.mp hi)
theorem sorted_eq {a b : List Int} (ha : a.Pairwise (· < ·)) (hb : b.Pairwise (· ≤ ·)) (nb : b.Nodup) (h : ∀ x, x ∈ a ↔ x ∈ b) : a = b := by
  refine sorted_unique ?_ (ha.imp fun h => Int.le_of_lt h) hb
  exact (List.perm_ext_iff_of_nodup (ha.imp fun h => Int.ne_of_lt h) nb).mpr h
theorem mem_reach {taps : List Int} {one many x : Int} : x ∈ reachL taps one many ↔ x = one ∨ (x - one ∈ taps ∧ x < many) := by
  unfold reachL
  rw [(sortI_perm _).mem_iff, List.mem_cons, List.mem_map]
  constructor
  · rintro (h | ⟨t, ht, rfl⟩)
    · exact .inl h
    · obtain ⟨h1, h2⟩ := List.mem_filter.mp ht
      exact .inr ⟨by rw [show one + t - one = t by omega]; exact h1, of_decide_eq_true h2⟩
  · rintro (h | ⟨h1, h2⟩)
    · exact .inl h
    · exact .inr ⟨x - one, List.mem_filter.mpr ⟨h1, decide_eq_true (by omega)⟩, by omega⟩
theorem reach_nodup {taps : List Int} {one many : Int} (ht : ∀ t ∈ taps, 1 ≤ t) (nd : taps.Nodup) : (reachL taps one many).Nodup := by
  unfold reachL
  rw [(sortI_perm _).nodup_iff, List.nodup_cons]
  refine ⟨fun h => ?_, ?_⟩
  · obtain ⟨t, h1, h2⟩ := List.mem_map.mp h
    have := ht t (List.mem_filter.mp h1).1
    omega
  · refine List.Pairwise.map _ (fun a b h => ?_) (nd.filter _)
    intro e
    exact h (by omega)
/-- what a changed wire gives back -/
theorem gather_back {taps bits x e : List Int} (ht : ∀ t ∈ taps, 1 ≤ t) (hl : x.length = bits.length) (hx : ∀ j : Nat, j < bits.length → x.getD j 0 = ((strewnL taps [] bits).getD j 0 + e.getD j 0) % 2) {i : Nat} (hi : i < bits.length) :
    (gatheredL taps x).getD i 0 = (bits.getD i 0 + (ones taps e i + e.getD i 0)) % 2 := by
  rw [gathered_get (by rw [hl]; exact hi)]
  have h1 : ones taps x i % 2 = (ones taps (strewnL taps [] bits) i + ones taps e i) % 2 := ones_add ht fun j hj => by
    rw [hx j (by omega)]
    omega
  have h2 := strewn_get ht hi
  have h3 := hx i hi
  omega
theorem bit01 {bits : List Int} (hb : ∀ x ∈ bits, x = 0 ∨ x = 1) (i : Nat) : bits.getD i 0 = 0 ∨ bits.getD i 0 = 1 := by
  by_cases h : i < bits.length
  · have : bits.getD i 0 = bits[i] := by simp [List.getD_eq_getElem?_getD, h]
    rw [this]
    exact hb _ (List.getElem_mem h)
  · left
    simp [List.getD_eq_getElem?_getD, Nat.not_lt.mp h]
theorem one_back {taps bits : List Int} {one : Int} (ht : ∀ t ∈ taps, 1 ≤ t) (nd : taps.Nodup) (hb : ∀ x ∈ bits, x = 0 ∨ x = 1) (h0 : 0 ≤ one) (h1 : one < bits.length) :
    unlikeL (gatheredL taps (putL (strewnL taps [] bits) [one])) bits = reachL taps one bits.length := by
  have hs := strewn_len (bits := bits) ht
  have hlp : (putL (strewnL taps [] bits) [one]).length = bits.length := by rw [put_len, hs]
  have hl : (gatheredL taps (putL (strewnL taps [] bits) [one])).length = bits.length := by rw [gathered_len, hlp]
  refine sorted_eq (pick_sorted _ _) (sortI_sorted _) (reach_nodup ht nd) fun x => ?_
  unfold unlikeL
  rw [hl, mem_pick, mem_reach]
  have key : ∀ i : Nat, i < bits.length → (decide ((gatheredL taps (putL (strewnL taps [] bits) [one])).getD i 0 ≠ bits.getD i 0) = true ↔ ((i : Int) = one ∨ (i : Int) - one ∈ taps)) := fun i hi => by
    have hg := gather_back (e := unitL bits.length one) ht hlp (fun j hj => by
      rw [put_get (by rw [hs]; exact hj), unit_get hj]
      simp only [List.mem_singleton]) hi
    rw [hg, ones_unit ht nd h0 (by omega), unit_get hi, decide_eq_true_iff]
    have hb := bit01 hb i
    by_cases q1 : (i : Int) = one
    · have q2 : (i : Int) - one ∉ taps := fun z => by have := ht _ z; omega
      rw [if_neg q2, if_pos q1]
      exact ⟨fun _ => .inl q1, fun _ => by omega⟩
    · rw [if_neg q1]
      by_cases q2 : (i : Int) - one ∈ taps
      · rw [if_pos q2]
        exact ⟨fun _ => .inr q2, fun _ => by omega⟩
      · rw [if_neg q2]
        exact ⟨fun h => (h (by omega)).elim, fun h => (h.elim q1 q2).elim⟩
  constructor
  · rintro ⟨i, hi, h, rfl⟩
    rcases (key i hi).mp h with h | h
    · exact .inl h
    · exact .inr ⟨h, by omega⟩
  · intro h
    have hx : 0 ≤ x ∧ x < bits.length := by
      rcases h with h | ⟨h, h2⟩
      · omega
      · have := ht _ h; omega
    refine ⟨x.toNat, by omega, (key x.toNat (by omega)).mpr ?_, by omega⟩
    rw [show ((x.toNat : Nat) : Int) = x by omega]
    exact h.imp id fun h => h.1
theorem two_back {taps bits : List Int} {one other : Int} (ht : ∀ t ∈ taps, 1 ≤ t) (nd : taps.Nodup) (hb : ∀ x ∈ bits, x = 0 ∨ x = 1) (h0 : 0 ≤ one) (h1 : one < bits.length) (h2 : 0 ≤ other) (h3 : other < bits.length) (hne : one ≠ other) :
    unlikeL (gatheredL taps (putL (strewnL taps [] bits) [one, other])) bits = pick bits.length fun i => decide (decide ((i : Int) ∈ reachL taps one bits.length) ≠ decide ((i : Int) ∈ reachL taps other bits.length)) := by
  have hs := strewn_len (bits := bits) ht
  have hlp : (putL (strewnL taps [] bits) [one, other]).length = bits.length := by rw [put_len, hs]
  have hl : (gatheredL taps (putL (strewnL taps [] bits) [one, other])).length = bits.length := by rw [gathered_len, hlp]
  unfold unlikeL
  rw [hl]
  refine pick_congr fun i hi => ?_
  obtain ⟨eL, he⟩ : ∃ eL : List Int, ∀ j : Nat, j < bits.length → eL.getD j 0 = (unitL bits.length one).getD j 0 + (unitL bits.length other).getD j 0 :=
    ⟨(List.range bits.length).map fun (j : Nat) => (unitL bits.length one).getD j 0 + (unitL bits.length other).getD j 0, fun j hj => by simp [List.getD_eq_getElem?_getD, hj]⟩
  have hg := gather_back (e := eL) ht hlp (fun j hj => by
    rw [put_get (by rw [hs]; exact hj), he j hj, unit_get hj, unit_get hj]
    congr 2
    simp only [List.mem_cons, List.not_mem_nil, or_false]
    by_cases q1 : (j : Int) = one
    · have q2 : ¬ (j : Int) = other := fun z => hne (q1.symm.trans z)
      simp [q1, q1 ▸ q2]
    · by_cases q2 : (j : Int) = other
      · have q3 : ¬ other = one := fun z => hne z.symm
        simp [q2, q3]
      · simp [q1, q2]) hi
  have ho := ones_add (x := eL) (a := unitL bits.length one) (b := unitL bits.length other) (p := (i : Int)) ht fun j hj => by rw [he j (by omega)]
  have hv := he i hi
  rw [unit_get hi, unit_get hi] at hv
  rw [ones_unit ht nd h0 (by omega), ones_unit ht nd h2 (by omega)] at ho
  have hbi := bit01 hb i
  have m1 : decide ((i : Int) ∈ reachL taps one bits.length) = decide ((i : Int) = one ∨ (i : Int) - one ∈ taps) := by
    refine decide_eq_decide.mpr (mem_reach.trans ⟨fun h => h.imp id fun h => h.1, fun h => h.imp id fun h => ⟨h, by omega⟩⟩)
  have m2 : decide ((i : Int) ∈ reachL taps other bits.length) = decide ((i : Int) = other ∨ (i : Int) - other ∈ taps) := by
    refine decide_eq_decide.mpr (mem_reach.trans ⟨fun h => h.imp id fun h => h.1, fun h => h.imp id fun h => ⟨h, by omega⟩⟩)
  rw [m1, m2]
  have n1 : (i : Int) = one → (i : Int) - one ∉ taps := fun q z => by have := ht _ z; omega
  have n2 : (i : Int) = other → (i : Int) - other ∉ taps := fun q z => by have := ht _ z; omega
  generalize (gatheredL taps (putL (strewnL taps [] bits) [one, other])).getD i 0 = gx at hg ⊢
  generalize ones taps eL i = o at hg ho
  generalize eL.getD i 0 = ev at hg hv
  generalize bits.getD i 0 = bv at hg hbi ⊢
  have go : ∀ A B : Prop, (A → B → False) → ∀ [Decidable A] [Decidable B], True := fun _ _ _ => trivial
  have fin : ∀ (p1 q1 p2 q2 : Prop) [Decidable p1] [Decidable q1] [Decidable p2] [Decidable q2], (p1 → ¬ q1) → (p2 → ¬ q2) → o % 2 = ((if q1 then (1 : Int) else 0) + (if q2 then 1 else 0)) % 2 → ev = (if p1 then (1 : Int) else 0) + (if p2 then 1 else 0) → decide (gx ≠ bv) = decide (decide (p1 ∨ q1) ≠ decide (p2 ∨ q2)) := by
    intro p1 q1 p2 q2 _ _ _ _ e1 e2 e3 e4
    by_cases a1 : p1 <;> by_cases a2 : q1 <;> by_cases b1 : p2 <;> by_cases b2 : q2
    all_goals first
      | exact absurd a2 (e1 a1)
      | exact absurd b2 (e2 b1)
      | (rw [if_pos a1] at e4; skip)
      | skip
    all_goals simp only [a1, a2, b1, b2, if_true, if_false] at e3 e4
    all_goals first
      | (have L : gx ≠ bv := by omega
         simp [L, a1, a2, b1, b2]; done)
      | (have L : gx = bv := by omega
         simp [L, a1, a2, b1, b2]; done)
  exact fin _ _ _ _ n1 n2 ho hv
theorem strewn_add {taps a b x : List Int} (ht : ∀ t ∈ taps, 1 ≤ t) (h1 : x.length = a.length) (h2 : b.length = a.length) (hx : ∀ j : Nat, j < a.length → x.getD j 0 % 2 = (a.getD j 0 + b.getD j 0) % 2) :
    ∀ (n i : Nat), i < n → i < a.length → (strewnL taps [] x).getD i 0 = ((strewnL taps [] a).getD i 0 + (strewnL taps [] b).getD i 0) % 2
  | 0, i, hi, _ => by omega
  | n + 1, i, hi, hl => by
    have ih := fun j h => strewn_add ht h1 h2 hx n j h
    have e1 := strewn_get (bits := x) ht (i := i) (by omega)
    have e2 := strewn_get (bits := a) ht (i := i) hl
    have e3 := strewn_get (bits := b) ht (i := i) (by omega)
    have e4 := ones_add (x := strewnL taps [] x) (a := strewnL taps [] a) (b := strewnL taps [] b) (p := (i : Int)) ht fun j hj => by
      have := ih j (by omega) (by omega)
      omega
    have e5 := hx i hl
    omega
theorem ones_zero {taps row : List Int} {p : Int} (ht : ∀ t ∈ taps, 1 ≤ t) (h : ∀ j : Nat, (j : Int) < p → row.getD j 0 = 0) : ones taps row p = 0 := by
  induction taps with
  | nil => rfl
  | cons t taps ih =>
    rw [ones_cons, ih fun u hu => ht u (List.mem_cons_of_mem _ hu)]
    have h1 := ht t List.mem_cons_self
    by_cases hl : t ≤ p
    · rw [if_pos hl, h (p - t).toNat (by omega)]; rfl
    · rw [if_neg hl]; rfl
theorem unit_len {many : Nat} {one : Int} : (unitL many one).length = many := by simp [unitL]
theorem alone_zero {taps : List Int} {many : Nat} {one : Int} (ht : ∀ t ∈ taps, 1 ≤ t) : ∀ (n i : Nat), i < n → i < many → (i : Int) < one → (strewnL taps [] (unitL many one)).getD i 0 = 0
  | 0, i, hi, _, _ => by omega
  | n + 1, i, hi, hl, ho => by
    have e1 := strewn_get (bits := unitL many one) ht (i := i) (by rw [unit_len]; exact hl)
    rw [unit_get hl, if_neg (by omega), ones_zero ht fun j hj => alone_zero ht n j (by omega) (by omega) (by omega)] at e1
    rw [e1]; rfl
theorem alone_one {taps : List Int} {many : Nat} {one : Int} (ht : ∀ t ∈ taps, 1 ≤ t) (h0 : 0 ≤ one) (h1 : one < many) : (strewnL taps [] (unitL many one)).getD one.toNat 0 = 1 := by
  have e1 := strewn_get (bits := unitL many one) ht (i := one.toNat) (by rw [unit_len]; omega)
  rw [unit_get (by omega), if_pos (by omega), ones_zero ht fun j hj => alone_zero ht (j + 1) j (by omega) (by omega) (by omega)] at e1
  rw [e1]; rfl
theorem alone_take {taps : List Int} {many : Nat} {one : Int} (ht : ∀ t ∈ taps, 1 ≤ t) (h0 : 0 ≤ one) (h1 : one < many) : (strewnL taps [] (unitL many one)).take (one.toNat + 1) = List.replicate one.toNat 0 ++ [1] := by
  have hl : (strewnL taps [] (unitL many one)).length = many := by rw [strewn_len ht, unit_len]
  apply List.ext_getElem?
  intro i
  by_cases h : i < one.toNat + 1
  · rw [List.getElem?_take_of_lt h]
    have hi : i < (strewnL taps [] (unitL many one)).length := by omega
    have e : ∀ v : Int, (strewnL taps [] (unitL many one)).getD i 0 = v → (strewnL taps [] (unitL many one))[i]? = some v := fun v h => by
      rw [List.getD_eq_getElem?_getD, List.getElem?_eq_getElem hi] at h
      rw [List.getElem?_eq_getElem hi]
      exact congrArg some h
    by_cases h2 : i < one.toNat
    · rw [List.getElem?_append_left (by simpa using h2), List.getElem?_replicate, if_pos h2]
      exact e 0 (alone_zero ht (i + 1) i (by omega) (by omega) (by omega))
    · have hi2 : i = one.toNat := by omega
      subst hi2
      rw [List.getElem?_append_right (by simp)]
      simp only [List.length_replicate, Nat.sub_self]
      exact e 1 (alone_one ht h0 h1)
  · rw [List.getElem?_eq_none (by rw [List.length_take]; omega), List.getElem?_eq_none (by simp; omega)]
theorem strewn_bit {taps bits : List Int} (ht : ∀ t ∈ taps, 1 ≤ t) {i : Nat} (hi : i < bits.length) : (strewnL taps [] bits).getD i 0 = 0 ∨ (strewnL taps [] bits).getD i 0 = 1 := by
  have := strewn_get ht hi
  omega
theorem alone_unlike {taps bits : List Int} {other : Int} (ht : ∀ t ∈ taps, 1 ≤ t) : unlikeL (strewnL taps [] (putL bits [other])) (strewnL taps [] bits) = pick bits.length fun i => decide ((strewnL taps [] (unitL bits.length other)).getD i 0 = 1) := by
  unfold unlikeL
  rw [strewn_len ht, put_len]
  refine pick_congr fun i hi => ?_
  have e := strewn_add (x := putL bits [other]) (a := bits) (b := unitL bits.length other) ht put_len unit_len (fun j hj => by
    rw [put_get hj, unit_get hj]
    simp only [List.mem_singleton]
    omega) (i + 1) i (by omega) hi
  have h1 := strewn_bit (bits := bits) ht hi
  have h2 := strewn_bit (bits := unitL bits.length other) ht (i := i) (by rw [unit_len]; exact hi)
  refine decide_eq_decide.mpr ?_
  omega
end Pv
namespace Pv
/-! ## rounds of taps -/
def farN (taps : List Int) : Nat := (taps.getLastD 0).toNat
def sq (taps : List Int) (i : Nat) : Int := (strewnL taps [] (unitL (i + 1) ((farN taps : Int) - 1))).getD i 0
def same (taps : List Int) (n : Nat) : Prop := ∀ j : Nat, j < farN taps → sq taps (n + j) = sq taps j
def IsRound (taps : List Int) (R : Nat) : Prop := 1 ≤ R ∧ same taps R ∧ ∀ n, 1 ≤ n → n < R → ¬ same taps n
theorem IsRound.uniq {taps : List Int} {a b : Nat} (h : IsRound taps a) (k : IsRound taps b) : a = b := by
  rcases Nat.lt_trichotomy a b with z | z | z
  · exact absurd h.2.1 (k.2.2 a h.1 z)
  · exact z
  · exact absurd k.2.1 (h.2.2 b k.1 z)
theorem ones_sum (taps row : List Int) (a : Int) : ones taps row a = (taps.map fun t => if t ≤ a then row.getD (a - t).toNat 0 else 0).sum := by
  induction taps with
  | nil => rfl
  | cons t taps ih => rw [ones_cons, ih]; rfl
theorem sum_congr {taps : List Int} {f g : Int → Int} (h : ∀ t ∈ taps, f t = g t) : (taps.map f).sum = (taps.map g).sum := by
  rw [List.map_congr_left h]
theorem unit_any {taps : List Int} (ht : ∀ t ∈ taps, 1 ≤ t) {one : Int} {N M : Nat} : ∀ (k i : Nat), i < k → i < N → i < M → (strewnL taps [] (unitL N one)).getD i 0 = (strewnL taps [] (unitL M one)).getD i 0
  | 0, i, h, _, _ => by omega
  | k + 1, i, h, h1, h2 => by
    rw [strewn_get ht (by rw [unit_len]; exact h1), strewn_get ht (by rw [unit_len]; exact h2), unit_get h1, unit_get h2, ones_congr ht fun j hj => unit_any (N := N) (M := M) ht k j (by omega) (by omega) (by omega)]
theorem sq_at {taps : List Int} (ht : ∀ t ∈ taps, 1 ≤ t) {N i : Nat} (h : i < N) : (strewnL taps [] (unitL N ((farN taps : Int) - 1))).getD i 0 = sq taps i :=
  unit_any ht (i + 1) i (by omega) h (by omega)
theorem sq_rec {taps : List Int} (ht : ∀ t ∈ taps, 1 ≤ t) (i : Nat) : sq taps i = ((if (i : Int) = (farN taps : Int) - 1 then 1 else 0) + (taps.map fun t => if t ≤ (i : Int) then sq taps ((i : Int) - t).toNat else 0).sum) % 2 := by
  unfold sq
  rw [strewn_get ht (by rw [unit_len]; omega), unit_get (by omega), ones_sum]
  congr 2
  refine sum_congr fun t h => ?_
  have := ht t h
  by_cases hl : t ≤ (i : Int)
  · rw [if_pos hl, if_pos hl]
    exact unit_any ht (i + 1) _ (by omega) (by omega) (by omega)
  · rw [if_neg hl, if_neg hl]
theorem sq_bit {taps : List Int} (ht : ∀ t ∈ taps, 1 ≤ t) (i : Nat) : sq taps i = 0 ∨ sq taps i = 1 := by
  rw [sq_rec ht]; omega
theorem sq_begin {taps : List Int} (ht : ∀ t ∈ taps, 1 ≤ t) {j : Nat} (h : j < farN taps) : sq taps j = if j + 1 = farN taps then 1 else 0 := by
  by_cases h1 : j + 1 = farN taps
  · rw [if_pos h1]
    have := alone_one (many := j + 1) (one := (farN taps : Int) - 1) ht (by omega) (by omega)
    rw [show ((farN taps : Int) - 1).toNat = j by omega] at this
    exact this
  · rw [if_neg h1]
    exact alone_zero ht (j + 1) j (by omega) (by omega) (by omega)
/-- behind the begin -/
theorem sq_next {taps : List Int} (ht : ∀ t ∈ taps, 1 ≤ t ∧ t ≤ farN taps) (n : Nat) : sq taps (n + farN taps) = (taps.map fun t => sq taps (n + farN taps - t.toNat)).sum % 2 := by
  rw [sq_rec fun t h => (ht t h).1, if_neg (by omega), Int.zero_add]
  congr 1
  refine sum_congr fun t h => ?_
  have := ht t h
  rw [if_pos (by omega), show (((n + farN taps : Nat) : Int) - t).toNat = n + farN taps - t.toNat by omega]
theorem sum_but {taps : List Int} {f g : Int → Int} {a : Int} (nd : taps.Nodup) (ha : a ∈ taps) (h : ∀ t ∈ taps, t ≠ a → f t = g t) : (taps.map f).sum - (taps.map g).sum = f a - g a := by
  induction taps with
  | nil => cases ha
  | cons t taps ih =>
    obtain ⟨n1, n2⟩ := List.nodup_cons.mp nd
    rw [List.map_cons, List.map_cons, List.sum_cons, List.sum_cons]
    by_cases e : a = t
    · subst e
      have : (taps.map f).sum = (taps.map g).sum := sum_congr fun u hu => h u (List.mem_cons_of_mem _ hu) fun e => n1 (e ▸ hu)
      omega
    · have h1 := ih n2 ((List.mem_cons.mp ha).resolve_left e) fun u hu hne => h u (List.mem_cons_of_mem _ hu) hne
      have h2 := h t List.mem_cons_self fun z => e z.symm
      omega
structure TapsF (taps : List Int) : Prop where
  rng : ∀ t ∈ taps, 1 ≤ t ∧ t ≤ farN taps
  nd : taps.Nodup
  far : (farN taps : Int) ∈ taps
theorem TapsF.one {taps : List Int} (h : TapsF taps) : ∀ t ∈ taps, 1 ≤ t := fun t z => (h.rng t z).1
theorem TapsF.pos {taps : List Int} (h : TapsF taps) : 1 ≤ farN taps := by
  have := h.rng _ h.far
  omega
theorem sq_back {taps : List Int} (h : TapsF taps) {n m : Nat} (e : ∀ j : Nat, j < farN taps → sq taps (n + 1 + j) = sq taps (m + 1 + j)) : ∀ j : Nat, j < farN taps → sq taps (n + j) = sq taps (m + j)
  | j + 1, hj => by
    have := e j (by omega)
    rw [show n + (j + 1) = n + 1 + j by omega, show m + (j + 1) = m + 1 + j by omega]
    exact this
  | 0, hj => by
    have p := h.pos
    have e1 := e (farN taps - 1) (by omega)
    rw [show n + 1 + (farN taps - 1) = n + farN taps by omega, show m + 1 + (farN taps - 1) = m + farN taps by omega, sq_next h.rng, sq_next h.rng] at e1
    have e2 := sum_but (f := fun t => sq taps (n + farN taps - t.toNat)) (g := fun t => sq taps (m + farN taps - t.toNat)) h.nd h.far fun t ht hne => by
      have := h.rng t ht
      have e3 := e (farN taps - t.toNat - 1) (by omega)
      rw [show n + 1 + (farN taps - t.toNat - 1) = n + farN taps - t.toNat by omega, show m + 1 + (farN taps - t.toNat - 1) = m + farN taps - t.toNat by omega] at e3
      exact e3
    have e4 : n + farN taps - ((farN taps : Nat) : Int).toNat = n + 0 := by omega
    have e5 : m + farN taps - ((farN taps : Nat) : Int).toNat = m + 0 := by omega
    simp only [e4, e5] at e2
    have b1 := sq_bit h.one (n + 0)
    have b2 := sq_bit h.one (m + 0)
    omega
theorem same_back {taps : List Int} (h : TapsF taps) : ∀ {i n : Nat}, (∀ j : Nat, j < farN taps → sq taps (n + i + j) = sq taps (i + j)) → same taps n
  | 0, n, e => fun j hj => by have := e j hj; simpa using this
  | i + 1, n, e => same_back h (i := i) (n := n) fun j hj => sq_back h (n := n + i) (m := i) (fun j hj => by have := e j hj; rw [show n + (i + 1) + j = n + i + 1 + j by omega] at this; exact this) j hj
/-! ### rows as numbers -/
def hv (f : Nat → Int) : Nat → Int
  | 0 => 0
  | k + 1 => 2 * hv f k + f k
theorem hv_shift (f : Nat → Int) : ∀ k, hv f (k + 1) = f 0 * 2 ^ k + hv (fun j => f (j + 1)) k
  | 0 => by simp [hv]
  | k + 1 => by
    show 2 * hv f (k + 1) + f (k + 1) = f 0 * 2 ^ (k + 1) + (2 * hv (fun j => f (j + 1)) k + f (k + 1))
    rw [hv_shift f k, Int.pow_succ, Int.mul_add, ← Int.mul_assoc, ← Int.mul_assoc, Int.mul_comm 2 (f 0), Int.mul_assoc (f 0) 2, Int.mul_comm 2 (2 ^ k), ← Int.mul_assoc, Int.add_assoc]
theorem hv_rng {f : Nat → Int} (hb : ∀ j, f j = 0 ∨ f j = 1) : ∀ k, 0 ≤ hv f k ∧ hv f k < 2 ^ k
  | 0 => by simp [hv]
  | k + 1 => by
    have := hv_rng hb k
    have h2 := hb k
    rw [Int.pow_succ]
    show 0 ≤ 2 * hv f k + f k ∧ 2 * hv f k + f k < _
    omega
theorem hv_inj {f g : Nat → Int} (hf : ∀ j, f j = 0 ∨ f j = 1) (hg : ∀ j, g j = 0 ∨ g j = 1) : ∀ {k : Nat}, hv f k = hv g k → ∀ j, j < k → f j = g j
  | 0, _, j, h => by omega
  | k + 1, e, j, h => by
    have e : 2 * hv f k + f k = 2 * hv g k + g k := e
    have h1 := hf k
    have h2 := hg k
    by_cases hj : j = k
    · subst hj; omega
    · exact hv_inj hf hg (k := k) (by omega) j (by omega)
theorem hv_congr {f g : Nat → Int} : ∀ {k : Nat}, (∀ j, j < k → f j = g j) → hv f k = hv g k
  | 0, _ => rfl
  | k + 1, h => by
    show 2 * hv f k + f k = 2 * hv g k + g k
    rw [hv_congr fun j hj => h j (by omega), h k (by omega)]
theorem hv_bit {f : Nat → Int} (hb : ∀ j, f j = 0 ∨ f j = 1) : ∀ {k j : Nat}, j < k → hv f k / 2 ^ j % 2 = f (k - 1 - j)
  | 0, j, h => by omega
  | k + 1, 0, _ => by
    have := hb k
    show (2 * hv f k + f k) / 2 ^ 0 % 2 = f (k + 1 - 1 - 0)
    rw [Int.pow_zero, Int.ediv_one, show k + 1 - 1 - 0 = k by omega]
    omega
  | k + 1, j + 1, h => by
    have h1 := hv_bit hb (k := k) (j := j) (by omega)
    have h2 := hb k
    show (2 * hv f k + f k) / 2 ^ (j + 1) % 2 = f (k + 1 - 1 - (j + 1))
    rw [show (2 : Int) ^ (j + 1) = 2 * 2 ^ j by rw [Int.pow_succ, Int.mul_comm], ← Int.ediv_ediv_of_nonneg (by omega), show (2 * hv f k + f k) / 2 = hv f k by omega, h1]
    congr 1
    omega
def hn (taps : List Int) (n : Nat) : Int := hv (fun j => sq taps (n + j)) (farN taps)
theorem hn_0 {taps : List Int} (h : TapsF taps) : hn taps 0 = 1 := by
  have p := h.pos
  unfold hn
  obtain ⟨k, hk⟩ : ∃ k, farN taps = k + 1 := ⟨farN taps - 1, by omega⟩
  rw [hk]
  show 2 * hv _ k + sq taps (0 + k) = 1
  have h0 : hv (fun j => sq taps (0 + j)) k = hv (fun _ => 0) k := hv_congr fun j hj => by rw [Nat.zero_add, sq_begin h.one (by omega), if_neg (by omega)]
  have h1 : ∀ k, hv (fun _ => 0) k = 0 := fun k => by
    induction k with
    | zero => rfl
    | succ k ih => show 2 * hv (fun _ => 0) k + 0 = 0; rw [ih]; rfl
  rw [h0, h1, Nat.zero_add, sq_begin h.one (by omega), if_pos (by omega)]
  rfl
theorem hn_next {taps : List Int} (h : TapsF taps) (n : Nat) : hn taps (n + 1) = (2 * hn taps n + sq taps (n + farN taps)) % 2 ^ farN taps := by
  have e := hv_shift (fun j => sq taps (n + j)) (farN taps)
  have e2 : (fun j => sq taps (n + 1 + j)) = fun j => sq taps (n + (j + 1)) := funext fun j => by rw [show n + 1 + j = n + (j + 1) by omega]
  have r := hv_rng (f := fun j => sq taps (n + 1 + j)) (fun j => sq_bit h.one _) (farN taps)
  have e : 2 * hn taps n + sq taps (n + farN taps) = _ := e
  rw [e, ← e2, Int.add_comm, Int.add_mul_emod_self_right]
  exact (Int.emod_eq_of_lt r.1 r.2).symm
theorem hn_one {taps : List Int} (h : TapsF taps) (n : Nat) : hn taps n = 1 ↔ same taps n := by
  rw [← hn_0 h]
  constructor
  · intro e j hj
    have := hv_inj (fun j => sq_bit h.one _) (fun j => sq_bit h.one _) e j hj
    simpa using this
  · intro e
    exact hv_congr fun j hj => by rw [e j hj, Nat.zero_add]
theorem pigeon : ∀ (N : Nat) (f : Nat → Int), (∀ i, i ≤ N → 0 ≤ f i ∧ f i < N) → ∃ i j, i < j ∧ j ≤ N ∧ f i = f j
  | 0, f, h => by have := h 0 (Nat.le_refl _); omega
  | N + 1, f, h => by
    by_cases hx : ∃ i, i ≤ N ∧ f i = f (N + 1)
    · obtain ⟨i, h1, h2⟩ := hx
      exact ⟨i, N + 1, by omega, Nat.le_refl _, h2⟩
    · obtain ⟨i, j, h1, h2, h3⟩ := pigeon N (fun i => if f i > f (N + 1) then f i - 1 else f i) fun i hi => by
        have a := h i (by omega)
        have b := h (N + 1) (Nat.le_refl _)
        have c : f i ≠ f (N + 1) := fun e => hx ⟨i, hi, e⟩
        show 0 ≤ (if f i > f (N + 1) then f i - 1 else f i) ∧ (if f i > f (N + 1) then f i - 1 else f i) < (N : Int)
        split <;> omega
      refine ⟨i, j, h1, by omega, ?_⟩
      have c : f i ≠ f (N + 1) := fun e => hx ⟨i, by omega, e⟩
      have d : f j ≠ f (N + 1) := fun e => hx ⟨j, by omega, e⟩
      split at h3 <;> split at h3 <;> omega
theorem least {p : Nat → Prop} : ∀ n, p n → ∃ m, m ≤ n ∧ p m ∧ ∀ k, k < m → ¬ p k := by
  intro n
  induction n using Nat.strongRecOn with
  | ind n ih =>
    intro h
    by_cases hx : ∃ k, k < n ∧ p k
    · obtain ⟨k, h1, h2⟩ := hx
      obtain ⟨m, h3, h4, h5⟩ := ih k h1 h2
      exact ⟨m, by omega, h4, h5⟩
    · exact ⟨n, Nat.le_refl _, h, fun k h1 h2 => hx ⟨k, h1, h2⟩⟩
theorem round_ex {taps : List Int} (h : TapsF taps) : ∃ R, IsRound taps R ∧ R ≤ 2 ^ farN taps := by
  obtain ⟨i, j, h1, h2, h3⟩ := pigeon (2 ^ farN taps) (hn taps) fun i _ => by
    have := hv_rng (f := fun j => sq taps (i + j)) (fun j => sq_bit h.one _) (farN taps)
    exact ⟨this.1, by rw [Int.natCast_pow]; exact this.2⟩
  have h4 : same taps (j - i) := same_back h (i := i) fun k hk => by
    have := hv_inj (fun j => sq_bit h.one _) (fun j => sq_bit h.one _) h3 k hk
    rw [show j - i + i + k = j + k by omega]
    exact this.symm
  obtain ⟨R, h5, ⟨h6, h7⟩, h8⟩ := least (p := fun n => 1 ≤ n ∧ same taps n) (j - i) ⟨by omega, h4⟩
  exact ⟨R, ⟨h6, h7, fun n a b c => h8 n b ⟨a, c⟩⟩, by omega⟩
/-! ### one tap; taps so many times as far -/
theorem far_one {t : Int} : farN [t] = t.toNat := rfl
theorem one_sq {t : Int} (h : 1 ≤ t) : ∀ (n i : Nat), i < n → sq [t] i = if i % t.toNat + 1 = t.toNat then 1 else 0
  | 0, i, hi => by omega
  | n + 1, i, hi => by
    have ht : ∀ u ∈ [t], 1 ≤ u := fun u hu => by rw [List.mem_singleton.mp hu]; exact h
    by_cases hlt : i < t.toNat
    · rw [sq_begin ht (by rw [far_one]; exact hlt), far_one, Nat.mod_eq_of_lt hlt]
    · rw [sq_rec ht, if_neg (by rw [far_one]; omega)]
      show (0 + ((if t ≤ (i : Int) then sq [t] ((i : Int) - t).toNat else 0) + 0)) % 2 = _
      rw [if_pos (by omega), one_sq h n _ (by omega), show ((i : Int) - t).toNat = i - t.toNat by omega, ← Nat.mod_eq_sub_mod (by omega)]
      split <;> rfl
theorem one_round {t : Int} (h : 1 ≤ t) : IsRound [t] t.toNat := by
  have key : ∀ n, same [t] n ↔ n % t.toNat = 0 := fun n => by
    constructor
    · intro e
      have := e (t.toNat - 1) (by rw [far_one]; omega)
      rw [one_sq h _ _ (Nat.lt_succ_self _), one_sq h _ _ (Nat.lt_succ_self _), Nat.mod_eq_of_lt (show t.toNat - 1 < t.toNat by omega), if_pos (show t.toNat - 1 + 1 = t.toNat by omega)] at this
      have h2 : (n + (t.toNat - 1)) % t.toNat + 1 = t.toNat := by
        by_cases z : (n + (t.toNat - 1)) % t.toNat + 1 = t.toNat
        · exact z
        · rw [if_neg z] at this; omega
      have h3 : (n + (t.toNat - 1) + 1) % t.toNat = 0 := by
        rw [Nat.add_mod, show (n + (t.toNat - 1)) % t.toNat = t.toNat - 1 by omega]
        by_cases z : t.toNat = 1
        · rw [z]
        · rw [Nat.mod_eq_of_lt (show 1 < t.toNat by omega), show t.toNat - 1 + 1 = t.toNat by omega, Nat.mod_self]
      rw [show n + (t.toNat - 1) + 1 = n + t.toNat by omega, Nat.add_mod_right] at h3
      exact h3
    · intro e j hj
      rw [one_sq h _ _ (Nat.lt_succ_self _), one_sq h _ _ (Nat.lt_succ_self _)]
      have : (n + j) % t.toNat = j % t.toNat := by rw [Nat.add_mod, e, Nat.zero_add, Nat.mod_mod]
      rw [this]
  refine ⟨by omega, (key _).mpr (Nat.mod_self _), fun n h1 h2 => ?_⟩
  rw [key, Nat.mod_eq_of_lt h2]
  omega
def farBy (taps : List Int) (by_ : Nat) : List Int := taps.map fun t => (by_ : Int) * t
theorem farBy_far {taps : List Int} (h : TapsF taps) {b : Nat} (hb : 1 ≤ b) : farN (farBy taps b) = b * farN taps := by
  unfold farN farBy
  have p := h.pos
  unfold farN at p
  have e : (taps.map fun t => (b : Int) * t).getLastD 0 = (b : Int) * taps.getLastD 0 := by
    rw [List.getLastD_eq_getLast?, List.getLastD_eq_getLast?, List.getLast?_map]
    cases taps.getLast? with
    | none => simp
    | some x => rfl
  rw [e]
  generalize taps.getLastD 0 = x at *
  have : x = ((x.toNat : Nat) : Int) := by omega
  rw [this, ← Int.natCast_mul, Int.toNat_natCast, Int.toNat_natCast]
theorem farBy_rng {taps : List Int} (h : TapsF taps) {b : Nat} (hb : 1 ≤ b) : ∀ t ∈ farBy taps b, 1 ≤ t := fun t ht => by
  obtain ⟨u, hu, rfl⟩ := List.mem_map.mp ht
  have := h.one u hu
  exact Int.le_trans (by omega : (1 : Int) ≤ 1 * 1) (Int.mul_le_mul (by omega) this (by omega) (by omega))
theorem mod_mul {b m k : Nat} (hb : 1 ≤ b) (hk : k < b) : (b * m + k) % b = k := by
  rw [Nat.add_comm, Nat.add_mul_mod_self_left, Nat.mod_eq_of_lt hk]
theorem by_sq {taps : List Int} (h : TapsF taps) {b : Nat} (hb : 1 ≤ b) : ∀ (n i : Nat), i < n → sq (farBy taps b) i = if (i + 1) % b = 0 then sq taps ((i + 1) / b - 1) else 0
  | 0, i, hi => by omega
  | n + 1, i, hi => by
    have p := h.pos
    rw [sq_rec (farBy_rng h hb), farBy_far h hb]
    have e1 : (farBy taps b).map (fun t => if t ≤ (i : Int) then sq (farBy taps b) ((i : Int) - t).toNat else 0) = taps.map fun t => if (b : Int) * t ≤ (i : Int) then sq (farBy taps b) ((i : Int) - b * t).toNat else 0 := by
      conv => lhs; unfold farBy
      rw [List.map_map]; rfl
    rw [e1]
    have hd := Nat.div_add_mod (i + 1) b
    by_cases hm : (i + 1) % b = 0
    · rw [if_pos hm]
      rw [hm] at hd
      generalize hq : (i + 1) / b = q at hd ⊢
      have hq0 : 1 ≤ q := by
        rcases Nat.eq_zero_or_pos q with z | z
        · subst z; omega
        · exact z
      rw [sq_rec h.one]
      have c1 : ((i : Int) = ((b * farN taps : Nat) : Int) - 1) ↔ (((q - 1 : Nat) : Int) = (farN taps : Int) - 1) := by
        constructor
        · intro e
          have : b * q = b * farN taps := by omega
          have := Nat.eq_of_mul_eq_mul_left (by omega) this
          omega
        · intro e
          have : q = farN taps := by omega
          subst this
          omega
      have c2 : (taps.map fun t => if (b : Int) * t ≤ (i : Int) then sq (farBy taps b) ((i : Int) - b * t).toNat else 0) = taps.map fun t => if t ≤ ((q - 1 : Nat) : Int) then sq taps (((q - 1 : Nat) : Int) - t).toNat else 0 := by
        refine List.map_congr_left fun t ht => ?_
        have ht1 := h.one t ht
        obtain ⟨u, rfl⟩ : ∃ u : Nat, t = (u : Int) := ⟨t.toNat, by omega⟩
        rw [← Int.natCast_mul]
        by_cases z : u + 1 ≤ q
        · have z1 : b * (u + 1) ≤ b * q := Nat.mul_le_mul_left b z
          rw [Nat.mul_add] at z1
          rw [if_pos (by omega), if_pos (by omega), by_sq h hb n _ (by have : 1 ≤ b * u := Nat.le_trans (by omega : 1 ≤ 1 * 1) (Nat.mul_le_mul hb (by omega)); omega)]
          have e3 : ((i : Int) - ((b * u : Nat) : Int)).toNat + 1 = b * (q - u) := by rw [Nat.mul_sub]; omega
          rw [e3, if_pos (Nat.mul_mod_right b _), Nat.mul_div_cancel_left _ (by omega)]
          congr 1
          omega
        · have z1 : b * q ≤ b * u := Nat.mul_le_mul_left b (by omega)
          rw [if_neg (by omega), if_neg (by omega)]
      rw [c2]
      have c3 : (if (i : Int) = ((b * farN taps : Nat) : Int) - 1 then (1 : Int) else 0) = if ((q - 1 : Nat) : Int) = (farN taps : Int) - 1 then 1 else 0 := by
        by_cases z : (i : Int) = ((b * farN taps : Nat) : Int) - 1
        · rw [if_pos z, if_pos (c1.mp z)]
        · rw [if_neg z, if_neg fun y => z (c1.mpr y)]
      rw [c3]
    · rw [if_neg hm, if_neg]
      · have c2 : (taps.map fun t => if (b : Int) * t ≤ (i : Int) then sq (farBy taps b) ((i : Int) - b * t).toNat else 0) = taps.map fun t => (0 : Int) := by
          refine List.map_congr_left fun t ht => ?_
          have ht1 := h.one t ht
          obtain ⟨u, rfl⟩ : ∃ u : Nat, t = (u : Int) := ⟨t.toNat, by omega⟩
          rw [← Int.natCast_mul]
          by_cases z : b * u ≤ i
          · rw [if_pos (by omega), by_sq h hb n _ (by have : 1 ≤ b * u := Nat.le_trans (by omega : 1 ≤ 1 * 1) (Nat.mul_le_mul hb (by omega)); omega), if_neg]
            intro e
            apply hm
            have e3 : i + 1 = ((i : Int) - ((b * u : Nat) : Int)).toNat + 1 + b * u := by omega
            rw [e3, Nat.add_mul_mod_self_left]
            exact e
          · rw [if_neg (by omega)]
        rw [c2]
        have : ∀ l : List Int, (l.map fun t => (0 : Int)).sum = 0 := fun l => by
          induction l with
          | nil => rfl
          | cons a l ih => rw [List.map_cons, List.sum_cons, ih]; rfl
        rw [this]; rfl
      · intro e
        apply hm
        have : i + 1 = b * farN taps := by omega
        rw [this]; exact Nat.mul_mod_right b _
theorem by_at {taps : List Int} (h : TapsF taps) {b : Nat} (hb : 1 ≤ b) (q i : Nat) (e : i + 1 = b * (q + 1)) : sq (farBy taps b) i = sq taps q := by
  rw [by_sq h hb (i + 1) i (Nat.lt_succ_self _), e, if_pos (Nat.mul_mod_right b _), Nat.mul_div_cancel_left _ (by omega), Nat.add_sub_cancel]
theorem by_same {taps : List Int} (h : TapsF taps) {b : Nat} (hb : 1 ≤ b) (n : Nat) : same (farBy taps b) n ↔ ∃ m, n = b * m ∧ same taps m := by
  have p := h.pos
  have pb : 1 ≤ b * farN taps := Nat.le_trans (by omega : 1 ≤ 1 * 1) (Nat.mul_le_mul hb p)
  constructor
  · intro e
    have e1 : n % b = 0 := by
      have := e (b * farN taps - 1) (by rw [farBy_far h hb]; omega)
      rw [by_at h hb (farN taps - 1) (b * farN taps - 1) (by rw [show farN taps - 1 + 1 = farN taps by omega]; omega), sq_begin h.one (by omega), if_pos (by omega), by_sq h hb _ _ (Nat.lt_succ_self _), show n + (b * farN taps - 1) + 1 = n + b * farN taps by omega, Nat.add_mul_mod_self_left] at this
      by_cases z : n % b = 0
      · exact z
      · rw [if_neg z] at this; omega
    have hd := Nat.div_add_mod n b
    rw [e1, Nat.add_zero] at hd
    refine ⟨n / b, hd.symm, fun j hj => ?_⟩
    generalize n / b = m at hd
    have hj2 : b * (j + 1) ≤ b * farN taps := Nat.mul_le_mul_left b (by omega)
    have hj3 : b ≤ b * (j + 1) := Nat.le_mul_of_pos_right b (by omega)
    have := e (b * (j + 1) - 1) (by rw [farBy_far h hb]; omega)
    rw [by_at h hb j (b * (j + 1) - 1) (by omega), by_at h hb (m + j) (n + (b * (j + 1) - 1)) (by rw [show m + j + 1 = m + (j + 1) by omega, Nat.mul_add b m]; omega)] at this
    exact this
  · rintro ⟨m, rfl, e⟩ j hj
    rw [farBy_far h hb] at hj
    rw [by_sq h hb _ _ (Nat.lt_succ_self _), by_sq h hb _ _ (Nat.lt_succ_self _), show b * m + j + 1 = j + 1 + b * m by omega, Nat.add_mul_mod_self_left]
    by_cases z : (j + 1) % b = 0
    · rw [if_pos z, if_pos z, Nat.add_mul_div_left _ _ (by omega)]
      have hd := Nat.div_add_mod (j + 1) b
      rw [z, Nat.add_zero] at hd
      generalize hq : (j + 1) / b = q at hd ⊢
      have hq0 : 1 ≤ q := by
        rcases Nat.eq_zero_or_pos q with y | y
        · subst y; omega
        · exact y
      have hq1 : q - 1 < farN taps := by
        have : b * q ≤ b * farN taps := by omega
        have := Nat.le_of_mul_le_mul_left this (by omega)
        omega
      have := e (q - 1) hq1
      rw [show m + (q - 1) = q + m - 1 by omega] at this
      exact this
    · rw [if_neg z, if_neg z]
theorem by_round {taps : List Int} (h : TapsF taps) {b R : Nat} (hb : 1 ≤ b) (r : IsRound taps R) : IsRound (farBy taps b) (b * R) := by
  refine ⟨Nat.le_trans (by omega : 1 ≤ 1 * 1) (Nat.mul_le_mul hb r.1), (by_same h hb _).mpr ⟨R, rfl, r.2.1⟩, fun n h1 h2 h3 => ?_⟩
  obtain ⟨m, rfl, e⟩ := (by_same h hb n).mp h3
  have : m < R := Nat.lt_of_mul_lt_mul_left h2
  refine r.2.2 m ?_ this e
  rcases Nat.eq_zero_or_pos m with y | y
  · subst y; omega
  · exact y
theorem TapsF.by_ {taps : List Int} (h : TapsF taps) {b : Nat} (hb : 1 ≤ b) : TapsF (farBy taps b) := by
  refine ⟨fun t ht => ⟨farBy_rng h hb t ht, ?_⟩, ?_, ?_⟩
  · obtain ⟨u, hu, rfl⟩ := List.mem_map.mp ht
    have := h.rng u hu
    rw [farBy_far h hb, Int.natCast_mul]
    exact Int.mul_le_mul_of_nonneg_left this.2 (by omega)
  · refine List.Pairwise.map _ (fun x y hxy => ?_) h.nd
    intro e
    exact hxy (Int.eq_of_mul_eq_mul_left (by omega) e)
  · rw [farBy_far h hb, Int.natCast_mul]
    exact List.mem_map.mpr ⟨_, h.far, rfl⟩
theorem TapsF.of {taps : List Int} (h : ∀ t ∈ taps, 1 ≤ t) (s : taps.Pairwise (· < ·)) (ne : taps ≠ []) : TapsF taps := by
  obtain ⟨x, hx⟩ : ∃ x, taps.getLast? = some x := by
    cases e : taps.getLast? with
    | none => exact absurd (List.getLast?_eq_none_iff.mp e) ne
    | some x => exact ⟨x, rfl⟩
  obtain ⟨l, rfl⟩ := List.getLast?_eq_some_iff.mp hx
  have e1 : (farN (l ++ [x]) : Int) = x := by
    have := h x (by simp)
    unfold farN
    rw [List.getLastD_eq_getLast?, hx]
    show ((x.toNat : Nat) : Int) = x
    omega
  refine ⟨fun t ht => ⟨h t ht, ?_⟩, s.imp fun h => Int.ne_of_lt h, by rw [e1]; simp⟩
  rw [e1]
  rcases List.mem_append.mp ht with z | z
  · exact Int.le_of_lt ((List.pairwise_append.mp s).2.2 t z x (by simp))
  · rw [List.mem_singleton.mp z]; omega
/-- the row behind n steps -/
def wn (taps : List Int) (n : Nat) : List Int := (List.range (farN taps)).map fun j => sq taps (n + j)
theorem wn_len {taps : List Int} {n : Nat} : (wn taps n).length = farN taps := by simp [wn]
theorem wn_get {taps : List Int} {n j : Nat} (h : j < farN taps) : (wn taps n).getD j 0 = sq taps (n + j) := by simp [wn, List.getD_eq_getElem?_getD, h]
theorem wn_eq {taps : List Int} {n : Nat} : wn taps n = wn taps 0 ↔ same taps n := by
  constructor
  · intro e j hj
    have : (wn taps n).getD j 0 = (wn taps 0).getD j 0 := by rw [e]
    rw [wn_get hj, wn_get hj, Nat.zero_add] at this
    exact this
  · intro e
    unfold wn
    refine List.map_congr_left fun j hj => ?_
    rw [e j (List.mem_range.mp hj), Nat.zero_add]
theorem wn_0 {taps : List Int} (h : TapsF taps) : wn taps 0 = List.replicate (farN taps - 1) 0 ++ [1] := by
  have p := h.pos
  obtain ⟨k, hk⟩ : ∃ k, farN taps = k + 1 := ⟨farN taps - 1, by omega⟩
  unfold wn
  rw [hk, List.range_succ, List.map_append, Nat.add_sub_cancel]
  congr 1
  · apply List.ext_getElem?
    intro i
    rw [List.getElem?_map, List.getElem?_replicate]
    by_cases hi : i < k
    · rw [if_pos hi, List.getElem?_range hi]
      show some (sq taps (0 + i)) = _
      rw [Nat.zero_add, sq_begin h.one (by omega), if_neg (by omega)]
    · rw [if_neg hi, List.getElem?_eq_none (by simpa using hi)]; rfl
  · show [sq taps (0 + k)] = [1]
    rw [Nat.zero_add, sq_begin h.one (by omega), if_pos (by omega)]
theorem wn_next {taps : List Int} (h : TapsF taps) (n : Nat) : wn taps (n + 1) = (wn taps n).tail ++ [ones taps (wn taps n) (farN taps) % 2] := by
  have p := h.pos
  have e : ones taps (wn taps n) (farN taps) % 2 = sq taps (n + farN taps) := by
    rw [sq_next h.rng, ones_sum]
    congr 1
    refine sum_congr fun t ht => ?_
    have := h.rng t ht
    rw [if_pos this.2, wn_get (by omega)]
    congr 1
    omega
  rw [e]
  obtain ⟨k, hk⟩ : ∃ k, farN taps = k + 1 := ⟨farN taps - 1, by omega⟩
  unfold wn
  rw [hk]
  conv => lhs; rw [List.range_succ, List.map_append]
  conv => rhs; rw [List.range_succ_eq_map, List.map_cons, List.tail_cons, List.map_map]
  congr 1
  · refine List.map_congr_left fun j hj => ?_
    show sq taps (n + 1 + j) = sq taps (n + (j + 1))
    congr 1; omega
  · show [sq taps (n + 1 + k)] = _
    rw [show n + 1 + k = n + (k + 1) by omega]
end Pv
namespace Pv
open PySem PySem.Spec PyProof.Rows L2
/-! ## more rows of the evaluator -/
section
variable {ρ : Nat → Fn}
theorem wloop_inv {c : Ev → Res Bool} {b : Ev → Res Fl} (P : Nat → Ev → Prop) {env' : Ev} : ∀ {R k fuel : Nat} {env : Ev}, P k env → (∀ i env, k ≤ i → i < k + R → P i env → ∃ env1 env2, c env = .ok true env1 ∧ (b env1 = .ok .nx env2 ∨ b env1 = .ok .cnt env2) ∧ P (i + 1) env2) →
    (∀ env, P (k + R) env → c env = .ok false env') → R < fuel → wloop c b fuel env = .ok .nx env'
  | _, _, 0, _, _, _, _, hf => by omega
  | 0, k, n + 1, env, h, _, he, _ => by
    have := he env h
    unfold wloop
    rw [this]; rfl
  | R + 1, k, n + 1, env, h, st, he, hf => by
    obtain ⟨env1, env2, h1, h2, h3⟩ := st k env (Nat.le_refl _) (by omega) h
    have ih := wloop_inv (c := c) (b := b) (env' := env') P (R := R) (k := k + 1) (fuel := n) (env := env2) h3 (fun i env a b' => st i env (by omega) (by omega)) (fun env hp => he env (by rw [show k + (R + 1) = k + 1 + R by omega]; exact hp)) (by omega)
    unfold wloop
    rw [h1]
    show (if true = true then (match b env1 with
      | .ok .nx env2 => wloop c b n env2
      | .ok .cnt env2 => wloop c b n env2
      | .ok .brk env2 => .ok .nx env2
      | r => r) else .ok .nx env1) = _
    rw [if_pos rfl]
    rcases h2 with h2 | h2 <;> (rw [h2]; exact ih)
theorem wloop_ex {c : Ev → Res Bool} {b : Ev → Res Fl} (P : Nat → Ev → Prop) {R k fuel : Nat} {env : Ev} (h : P k env) (st : ∀ i env, k ≤ i → i < k + R → P i env → ∃ env1 env2, c env = .ok true env1 ∧ (b env1 = .ok .nx env2 ∨ b env1 = .ok .cnt env2) ∧ P (i + 1) env2)
    (he : ∀ env, P (k + R) env → c env = .ok false env) (hf : R < fuel) : ∃ env', wloop c b fuel env = .ok .nx env' ∧ P (k + R) env' := by
  induction R generalizing k fuel env with
  | zero =>
    match fuel, hf with
    | n + 1, _ =>
      refine ⟨env, ?_, h⟩
      unfold wloop
      rw [he env h]; rfl
  | succ R ih =>
    match fuel, hf with
    | n + 1, hf =>
      obtain ⟨env1, env2, h1, h2, h3⟩ := st k env (Nat.le_refl _) (by omega) h
      obtain ⟨env', h4, h5⟩ := ih (k := k + 1) (fuel := n) (env := env2) h3 (fun i env a b' => st i env (by omega) (by omega)) (fun env hp => he env (by rw [show k + (R + 1) = k + 1 + R by omega]; exact hp)) (by omega)
      refine ⟨env', ?_, by rw [show k + (R + 1) = k + 1 + R by omega]; exact h5⟩
      unfold wloop
      rw [h1]
      show (if true = true then (match b env1 with
        | .ok .nx env2 => wloop c b n env2
        | .ok .cnt env2 => wloop c b n env2
        | .ok .brk env2 => .ok .nx env2
        | r => r) else .ok .nx env1) = _
      rw [if_pos rfl]
      rcases h2 with h2 | h2 <;> (rw [h2]; exact h4)
theorem s_whl {n : Nat} {c : E} {b : S} {env : Ev} : evS ρ (.whl n c b) env = wloop (evP ρ c).2 (evS ρ b) n env := rfl
def kInc2 (i : Nat) (a : Int) (p : D × Nat) (env : Ev) : Res Fl := match p.1 with
  | .int b => if i < env.length then .ok .nx (env.set i (some (.int (a + b), 0))) else .bad
  | _ => .bad
def kIncO (ρ : Nat → Fn) (i : Nat) (e : E) (env : Ev) (s : Option Slot) : Res Fl := match s with
  | some (some (.int a, _)) => ((evP ρ e).1 env).bind (kInc2 i a)
  | _ => .bad
theorem s_inc {i : Nat} {e : E} {env : Ev} : evS ρ (.inc i e) env = kIncO ρ i e env env[i]? := rfl
theorem k_incO {i k : Nat} {a : Int} {e : E} {env : Ev} : kIncO ρ i e env (some (some (.int a, k))) = ((evP ρ e).1 env).bind (kInc2 i a) := rfl
theorem k_inc2 {i k : Nat} {a b : Int} {env : Ev} : kInc2 i a (.int b, k) env = if i < env.length then .ok .nx (env.set i (some (.int (a + b), 0))) else .bad := rfl
def kCallvR (ρ : Nat → Fn) (j : Nat) (ps : List (D × Nat)) (env : Ev) : Res (D × Nat) := if (ρ j).io == 0 then retN ((ρ j).F (ps.map freeze1)) env else .bad
def kCallvL (ρ : Nat → Fn) (es : Es) (env : Ev) (o : Option Nat) : Res (D × Nat) := match o with
  | some j => (evEs ρ es env).bind (kCallvR ρ j)
  | none => .bad
def kCallvS (ρ : Nat → Fn) (cs : List (Str × Nat)) (es : Es) (env : Ev) (s : Option Slot) : Res (D × Nat) := match s with
  | some (some (.fn x, _)) => kCallvL ρ es env (cs.lookup x)
  | _ => .bad
theorem e_callv {i : Nat} {cs : List (Str × Nat)} {es : Es} {env : Ev} : (evP ρ (.callv i cs es)).1 env = kCallvS ρ cs es env env[i]? := rfl
theorem t_callv {i : Nat} {cs : List (Str × Nat)} {es : Es} {env : Ev} : (evP ρ (.callv i cs es)).2 env = ((evP ρ (.callv i cs es)).1 env).bind kTest := rfl
theorem k_callvS {cs : List (Str × Nat)} {es : Es} {env : Ev} {x : Str} {k : Nat} : kCallvS ρ cs es env (some (some (.fn x, k))) = kCallvL ρ es env (cs.lookup x) := rfl
theorem k_callvL {es : Es} {env : Ev} {j : Nat} : kCallvL ρ es env (some j) = (evEs ρ es env).bind (kCallvR ρ j) := rfl
def kChnE (o2 : COp) (x : D) (r : D × Nat) (env : Ev) : Res (D × Nat) := OBr (oCmp o2 x r.1) env
def kChnD (ρ : Nat → Fn) (o2 : COp) (c : E) (x : D) (env : Ev) (o : Option Bool) : Res (D × Nat) := match o with
  | some true => ((evP ρ c).1 env).bind (kChnE o2 x)
  | some false => .ok (.bl false, 0) env
  | none => .bad
def kChnB (ρ : Nat → Fn) (o1 o2 : COp) (c : E) (p q : D × Nat) (env : Ev) : Res (D × Nat) := kChnD ρ o2 c q.1 env (oCmp o1 p.1 q.1)
def kChnA (ρ : Nat → Fn) (o1 o2 : COp) (b c : E) (p : D × Nat) (env : Ev) : Res (D × Nat) := ((evP ρ b).1 env).bind (kChnB ρ o1 o2 c p)
theorem e_chn {o1 o2 : COp} {a b c : E} {env : Ev} : (evP ρ (.chn o1 o2 a b c)).1 env = ((evP ρ a).1 env).bind (kChnA ρ o1 o2 b c) := rfl
theorem t_chn {o1 o2 : COp} {a b c : E} {env : Ev} : (evP ρ (.chn o1 o2 a b c)).2 env = ((evP ρ (.chn o1 o2 a b c)).1 env).bind kTest := rfl
theorem k_chnT {o2 : COp} {c : E} {x : D} {env : Ev} : kChnD ρ o2 c x env (some true) = ((evP ρ c).1 env).bind (kChnE o2 x) := rfl
theorem k_chnF {o2 : COp} {c : E} {x : D} {env : Ev} : kChnD ρ o2 c x env (some false) = .ok (.bl false, 0) env := rfl
def kChn3F (ρ : Nat → Fn) (o2 o3 : COp) (d : E) (x : D) (r : D × Nat) (env : Ev) : Res (D × Nat) := kChnD ρ o3 d r.1 env (oCmp o2 x r.1)
def kChn3D (ρ : Nat → Fn) (o2 o3 : COp) (c d : E) (x : D) (env : Ev) (o : Option Bool) : Res (D × Nat) := match o with
  | some true => ((evP ρ c).1 env).bind (kChn3F ρ o2 o3 d x)
  | some false => .ok (.bl false, 0) env
  | none => .bad
def kChn3B (ρ : Nat → Fn) (o1 o2 o3 : COp) (c d : E) (p q : D × Nat) (env : Ev) : Res (D × Nat) := kChn3D ρ o2 o3 c d q.1 env (oCmp o1 p.1 q.1)
def kChn3A (ρ : Nat → Fn) (o1 o2 o3 : COp) (b c d : E) (p : D × Nat) (env : Ev) : Res (D × Nat) := ((evP ρ b).1 env).bind (kChn3B ρ o1 o2 o3 c d p)
theorem e_chn3 {o1 o2 o3 : COp} {a b c d : E} {env : Ev} : (evP ρ (.chn3 o1 o2 o3 a b c d)).1 env = ((evP ρ a).1 env).bind (kChn3A ρ o1 o2 o3 b c d) := rfl
theorem t_chn3 {o1 o2 o3 : COp} {a b c d : E} {env : Ev} : (evP ρ (.chn3 o1 o2 o3 a b c d)).2 env = ((evP ρ (.chn3 o1 o2 o3 a b c d)).1 env).bind kTest := rfl
theorem k_chn3T {o2 o3 : COp} {c d : E} {x : D} {env : Ev} : kChn3D ρ o2 o3 c d x env (some true) = ((evP ρ c).1 env).bind (kChn3F ρ o2 o3 d x) := rfl
theorem k_chn3F {o2 o3 : COp} {c d : E} {x : D} {env : Ev} : kChn3D ρ o2 o3 c d x env (some false) = .ok (.bl false, 0) env := rfl
theorem r_OBr {b : Bool} {e : Ev} : OBr (some b) e = .ok (.bl b, 0) e := rfl
theorem i_rng2 {a b : E} {env : Ev} : evI ρ (.rng2 a b) env = ((evP ρ a).1 env).bind fun p env1 => ((evP ρ b).1 env1).bind fun q env2 => match p.1, q.1 with
    | .int i, .int j => if -(2 ^ 62) ≤ i ∧ i < 2 ^ 62 ∧ -(2 ^ 62) ≤ j ∧ j < 2 ^ 62 ∧ (j - i).toNat ≤ big then .ok (rangeL i 1 (j - i).toNat) env2 else .bad
    | _, _ => .bad := rfl
def kSo (p : D × Nat) (env : Ev) : Res (Option Int) := match p.1 with
  | .int i => .ok (some i) env
  | _ => .bad
theorem o_so {e : E} {env : Ev} : evO ρ (.so e) env = ((evP ρ e).1 env).bind kSo := rfl
theorem k_so {i : Int} {k : Nat} {env : Ev} : kSo (.int i, k) env = .ok (some i) env := rfl
theorem ot_so {e : E} {env : Ev} : evOT ρ (.so e) env = (evP ρ e).2 env := rfl
theorem ot_no {env : Ev} : evOT ρ .no env = .ok true env := rfl
theorem kcomp {own : List Nat} {t : T} {e : E} {xs : List D} {env env2 : Ev} {ys : List D} (h1 : ownOk own env = true) (h2 : cloop 0 own t env (evOT ρ .no) (evP ρ e).1 xs env = .ok ys env2) : kComp ρ 0 own t .no e xs env = .ok (.lst ys, 1) env2 := kcomp2 h1 h2
theorem oEq_bl (a b : Bool) : oEq (.bl a) (.bl b) = some (decide (a = b)) := by
  show (if (shp (.bl a) && shp (.bl b)) = true then some (PyData.eqv (.bool a) (.bool b)) else none) = _
  rw [shp_ok (k := 0) (d := .bl a) rfl (by decide), shp_ok (k := 0) (d := .bl b) rfl (by decide), if_pos (show (true && true) = true from rfl)]
  cases a <;> cases b <;> rfl
theorem cut_take (l : List Int) (k : Int) (h0 : 0 ≤ k) (h1 : k ≤ l.length) : Pv.cutD (l.map D.int) none (some k) = (l.take k.toNat).map D.int := by
  have e1 : HT.sIx (l.map D.int).length 0 none = 0 := by simp [HT.sIx]
  have e2 : HT.sIx (l.map D.int).length (l.map D.int).length (some k) = k.toNat := by
    rw [List.length_map]
    show (if k < 0 then (k + (l.length : Int)).toNat else min k.toNat l.length) = k.toNat
    rw [if_neg (by omega)]
    omega
  unfold Pv.cutD
  rw [e1, e2, List.drop_zero, Nat.sub_zero, List.map_take]
/-- any cut with ends from 0 on -/
theorem cut_mid {α : Type} (l : List α) (a b : Int) (h0 : 0 ≤ a) (h1 : 0 ≤ b) : Pv.cutD l (some a) (some b) = (l.take b.toNat).drop a.toNat := by
  have e1 : HT.sIx l.length 0 (some a) = min a.toNat l.length := by
    show (if a < 0 then (a + (l.length : Int)).toNat else min a.toNat l.length) = _
    rw [if_neg (by omega)]
  have e2 : HT.sIx l.length l.length (some b) = min b.toNat l.length := by
    show (if b < 0 then (b + (l.length : Int)).toNat else min b.toNat l.length) = _
    rw [if_neg (by omega)]
  unfold Pv.cutD
  rw [e1, e2]
  apply List.ext_getElem?
  intro i
  rw [List.getElem?_drop]
  by_cases h : min a.toNat l.length + i < min b.toNat l.length
  · rw [List.getElem?_take_of_lt (by omega), List.getElem?_take_of_lt (by omega), List.getElem?_drop]
    congr 1; omega
  · rw [List.getElem?_eq_none (by rw [List.length_take, List.length_drop]; omega), List.getElem?_eq_none (by rw [List.length_take]; omega)]
theorem cut_to {α : Type} (l : List α) (b : Int) (h1 : 0 ≤ b) : Pv.cutD l none (some b) = l.take b.toNat := by
  have e1 : HT.sIx l.length 0 none = 0 := rfl
  have e2 : HT.sIx l.length l.length (some b) = min b.toNat l.length := by
    show (if b < 0 then (b + (l.length : Int)).toNat else min b.toNat l.length) = _
    rw [if_neg (by omega)]
  unfold Pv.cutD
  rw [e1, e2, List.drop_zero, Nat.sub_zero]
  apply List.ext_getElem?
  intro i
  by_cases h : i < min b.toNat l.length
  · rw [List.getElem?_take_of_lt (by omega), List.getElem?_take_of_lt (by omega)]
  · rw [List.getElem?_eq_none (by rw [List.length_take]; omega), List.getElem?_eq_none (by rw [List.length_take]; omega)]
theorem cut_from {α : Type} (l : List α) (a : Int) (h1 : 0 ≤ a) : Pv.cutD l (some a) none = l.drop a.toNat := by
  have e1 : HT.sIx l.length 0 (some a) = min a.toNat l.length := by
    show (if a < 0 then (a + (l.length : Int)).toNat else min a.toNat l.length) = _
    rw [if_neg (by omega)]
  have e2 : HT.sIx l.length l.length none = l.length := rfl
  unfold Pv.cutD
  rw [e1, e2]
  apply List.ext_getElem?
  intro i
  by_cases h : a.toNat + i < l.length
  · rw [List.getElem?_take_of_lt (by omega), List.getElem?_drop, List.getElem?_drop]
    congr 1; omega
  · rw [List.getElem?_eq_none (by rw [List.length_take, List.length_drop]; omega), List.getElem?_eq_none (by rw [List.length_drop]; omega)]
theorem cut_init {α : Type} (x : α) (l : List α) : Pv.cutD (l ++ [x]) none (some (-1)) = l := by
  have e1 : HT.sIx (l ++ [x]).length 0 none = 0 := rfl
  have e2 : HT.sIx (l ++ [x]).length (l ++ [x]).length (some (-1)) = l.length := by
    show (if (-1 : Int) < 0 then ((-1 : Int) + ((l ++ [x]).length : Int)).toNat else min (-1 : Int).toNat (l ++ [x]).length) = l.length
    rw [if_pos (by decide), List.length_append, List.length_singleton]; omega
  unfold Pv.cutD
  rw [e1, e2]
  simp
theorem ints_of : ∀ {ys : List D} {p : Int → Prop}, (∀ (i : Nat) (y : D), ys[i]? = some y → ∃ x : Int, y = .int x ∧ p x) → ∃ l : List Int, ys = l.map .int ∧ ∀ x ∈ l, p x
  | [], _, _ => ⟨[], rfl, fun _ h => nomatch h⟩
  | y :: ys, p, h => by
    obtain ⟨x, rfl, hx⟩ := h 0 y rfl
    obtain ⟨l, rfl, hb⟩ := ints_of (ys := ys) (p := p) fun i y hy => h (i + 1) y (by simpa using hy)
    exact ⟨x :: l, rfl, fun v hv => (List.mem_cons.mp hv).elim (fun e => e ▸ hx) (hb v)⟩
theorem atI_last {l : List Int} (h : l ≠ []) : L2.atI (l.map D.int) (-1) = some (.int (l.getLastD 0)) := by
  obtain ⟨x, hx⟩ : ∃ x, l.getLast? = some x := by
    cases e : l.getLast? with
    | none => exact absurd (List.getLast?_eq_none_iff.mp e) h
    | some x => exact ⟨x, rfl⟩
  obtain ⟨r, rfl⟩ := List.getLast?_eq_some_iff.mp hx
  rw [List.getLastD_eq_getLast?, hx]
  unfold L2.atI ixN
  rw [List.length_map, List.length_append, List.length_singleton, if_neg (by decide), if_pos (by omega)]
  show ((r ++ [x]).map D.int)[(-1 + ((r.length + 1 : Nat) : Int)).toNat]? = _
  rw [show (-1 + ((r.length + 1 : Nat) : Int)).toNat = r.length by omega]
  simp
end
end Pv
namespace Pv
/-! ## there and back -/
theorem getD_ext {a b : List Int} (hl : a.length = b.length) (h : ∀ i : Nat, i < a.length → a.getD i 0 = b.getD i 0) : a = b := by
  apply List.ext_getElem hl
  intro i h1 h2
  have := h i h1
  simp [List.getD_eq_getElem?_getD, h1, h2] at this
  exact this
theorem getD_off {l : List Int} {i : Nat} (h : l.length ≤ i) : l.getD i 0 = 0 := by
  rw [List.getD_eq_getElem?_getD, List.getElem?_eq_none h]; rfl
theorem strewn_uniq {taps bits X : List Int} (ht : ∀ t ∈ taps, 1 ≤ t) (hl : X.length = bits.length) (h : ∀ i : Nat, i < bits.length → X.getD i 0 = (bits.getD i 0 + ones taps X i) % 2) : strewnL taps [] bits = X := by
  refine getD_ext (by rw [strewn_len ht, hl]) fun i hi => ?_
  rw [strewn_len ht] at hi
  have key : ∀ n i : Nat, i < n → i < bits.length → (strewnL taps [] bits).getD i 0 = X.getD i 0 := by
    intro n
    induction n with
    | zero => intro i h; omega
    | succ n ih =>
      intro i h1 h2
      rw [strewn_get ht h2, h i h2, ones_congr ht fun j hj => ih j (by omega) (by omega)]
  exact key (i + 1) i (by omega) hi
def bothL (a b : List Int) : List Int := (List.range a.length).map fun i => (a.getD i 0 + b.getD i 0) % 2
theorem both_len {a b : List Int} : (bothL a b).length = a.length := by simp [bothL]
theorem both_get {a b : List Int} {i : Nat} (h : i < a.length) : (bothL a b).getD i 0 = (a.getD i 0 + b.getD i 0) % 2 := by simp [bothL, List.getD_eq_getElem?_getD, h]
theorem take_getD {l : List Int} {i j : Nat} (h : j < i) : (l.take i).getD j 0 = l.getD j 0 := by
  rw [List.getD_eq_getElem?_getD, List.getD_eq_getElem?_getD, List.getElem?_take_of_lt h]
theorem zeros_get {m : Nat} {l : List Int} {i : Nat} : (List.replicate m 0 ++ l).getD i 0 = if i < m then 0 else l.getD (i - m) 0 := by
  by_cases h : i < m
  · rw [if_pos h, List.getD_eq_getElem?_getD, List.getElem?_append_left (by simpa using h), List.getElem?_replicate, if_pos h]; rfl
  · rw [if_neg h, List.getD_eq_getElem?_getD, List.getElem?_append_right (by simpa using Nat.not_lt.mp h), List.length_replicate, List.getD_eq_getElem?_getD]
theorem ones_shift {taps : List Int} (ht : ∀ t ∈ taps, 1 ≤ t) (m : Nat) (l : List Int) (i : Nat) : ones taps (List.replicate m 0 ++ l) i = if i < m then 0 else ones taps l ((i - m : Nat) : Int) := by
  induction taps with
  | nil => rw [ones_nil, ones_nil]; split <;> rfl
  | cons t taps ih =>
    rw [ones_cons, ones_cons, ih fun u hu => ht u (List.mem_cons_of_mem _ hu)]
    have h1 := ht t List.mem_cons_self
    have e : (if t ≤ (i : Int) then (List.replicate m 0 ++ l).getD ((i : Int) - t).toNat 0 else 0) = if i < m then 0 else if t ≤ ((i - m : Nat) : Int) then l.getD (((i - m : Nat) : Int) - t).toNat 0 else 0 := by
      by_cases h : t ≤ (i : Int)
      · rw [if_pos h, zeros_get]
        by_cases h2 : i < m
        · rw [if_pos h2, if_pos (by omega)]
        · rw [if_neg h2]
          by_cases h3 : t ≤ ((i - m : Nat) : Int)
          · rw [if_neg (by omega), if_pos h3]
            congr 1
            omega
          · rw [if_pos (by omega), if_neg h3]
      · rw [if_neg h]
        by_cases h2 : i < m
        · rw [if_pos h2]
        · rw [if_neg h2, if_neg (by omega)]
    rw [e]
    by_cases h2 : i < m
    · simp [h2]
    · simp [h2]
structure Way (T U : List Int → List Int) : Prop where
  len : ∀ x, (T x).length = x.length
  bit : ∀ x, ∀ b ∈ T x, b = 0 ∨ b = 1
  back : ∀ x, (∀ b ∈ x, b = 0 ∨ b = 1) → U (T x) = x
  both : ∀ x y, y.length = x.length → T (bothL x y) = bothL (T x) (T y)
  ahead : ∀ (m : Nat) x, T (List.replicate m 0 ++ x) = List.replicate m 0 ++ T x
  cut : ∀ (m : Nat) x, T (x.take m) = (T x).take m
theorem mem_getD {l : List Int} {x : Int} (h : x ∈ l) : ∃ i : Nat, i < l.length ∧ l.getD i 0 = x := by
  obtain ⟨i, hi, e⟩ := List.getElem_of_mem h
  exact ⟨i, hi, by simp [List.getD_eq_getElem?_getD, hi, e]⟩
theorem way_strewn {taps : List Int} (ht : ∀ t ∈ taps, 1 ≤ t) : Way (strewnL taps []) (gatheredL taps) where
  len := fun x => strewn_len ht
  bit := fun x b hb => by
    obtain ⟨i, hi, rfl⟩ := mem_getD hb
    rw [strewn_len ht] at hi
    exact strewn_bit ht hi
  back := fun x hx => by
    refine getD_ext (by rw [gathered_len, strewn_len ht]) fun i hi => ?_
    rw [gathered_len] at hi
    rw [gathered_get hi, strewn_len ht] at *
    rw [strewn_get ht hi]
    have := bit01 hx i
    omega
  both := fun x y hl => by
    refine strewn_uniq ht (by rw [both_len, strewn_len ht, both_len]) fun i hi => ?_
    rw [both_len] at hi
    have e := strewn_add (x := bothL x y) (a := x) (b := y) ht both_len hl (fun j hj => by rw [both_get hj]; omega)
    have e2 : ∀ j : Nat, (j : Int) < (i : Int) → (bothL (strewnL taps [] x) (strewnL taps [] y)).getD j 0 = (strewnL taps [] (bothL x y)).getD j 0 := fun j hj => by
      rw [both_get (by rw [strewn_len ht]; omega), e (j + 1) j (by omega) (by omega)]
    rw [ones_congr ht e2, both_get (by rw [strewn_len ht]; exact hi), ← e (i + 1) i (by omega) hi, strewn_get ht (by rw [both_len]; exact hi)]
  ahead := fun m x => by
    refine strewn_uniq ht (by simp [strewn_len ht]) fun i hi => ?_
    rw [zeros_get, zeros_get, ones_shift ht]
    by_cases h : i < m
    · simp [h]
    · simp only [h, if_false]
      rw [List.length_append, List.length_replicate] at hi
      exact strewn_get ht (by omega)
  cut := fun m x => by
    refine strewn_uniq ht (by simp [strewn_len ht]) fun i hi => ?_
    rw [List.length_take] at hi
    rw [take_getD (by omega), take_getD (by omega), ones_congr ht fun j hj => take_getD (by omega)]
    exact strewn_get ht (by omega)
theorem way_gathered {taps : List Int} (ht : ∀ t ∈ taps, 1 ≤ t) : Way (gatheredL taps) (strewnL taps []) where
  len := fun x => gathered_len
  bit := fun x b hb => by
    obtain ⟨i, hi, rfl⟩ := mem_getD hb
    rw [gathered_len] at hi
    rw [gathered_get hi]
    omega
  back := fun x hx => by
    refine strewn_uniq ht gathered_len.symm fun i hi => ?_
    rw [gathered_len] at hi
    rw [gathered_get hi]
    have := bit01 hx i
    omega
  both := fun x y hl => by
    refine getD_ext (by rw [both_len, gathered_len, gathered_len, both_len]) fun i hi => ?_
    rw [gathered_len, both_len] at hi
    rw [gathered_get (bits := bothL x y) (by rw [both_len]; exact hi), both_get (a := gatheredL taps x) (by rw [gathered_len]; exact hi), gathered_get (bits := x) hi, gathered_get (bits := y) (by omega), both_get (a := x) hi]
    have e := ones_add (x := bothL x y) (a := x) (b := y) (p := (i : Int)) ht fun j hj => by rw [both_get (by omega)]; omega
    omega
  ahead := fun m x => by
    refine getD_ext (by simp [gathered_len]) fun i hi => ?_
    rw [gathered_len] at hi
    rw [gathered_get hi, zeros_get, zeros_get, ones_shift ht]
    by_cases h : i < m
    · simp [h]
    · simp only [h, if_false]
      rw [List.length_append, List.length_replicate] at hi
      rw [gathered_get (by omega)]
  cut := fun m x => by
    refine getD_ext (by simp [gathered_len]) fun i hi => ?_
    rw [gathered_len, List.length_take] at hi
    rw [gathered_get (by rw [List.length_take]; exact hi), take_getD (by omega), take_getD (by omega), ones_congr ht fun j hj => take_getD (by omega), gathered_get (by omega)]
/-! ### a row that comes again -/
theorem sq_forward {taps : List Int} (h : TapsF taps) {n : Nat} (e : same taps n) : ∀ k i : Nat, i < k → sq taps (n + i) = sq taps i
  | 0, i, hi => by omega
  | k + 1, i, hi => by
    by_cases hf : i < farN taps
    · exact e i hf
    · obtain ⟨j, rfl⟩ : ∃ j, i = j + farN taps := ⟨i - farN taps, by omega⟩
      rw [← Nat.add_assoc, sq_next h.rng, sq_next h.rng]
      congr 1
      refine sum_congr fun t ht => ?_
      have := h.rng t ht
      rw [show n + j + farN taps - t.toNat = n + (j + farN taps - t.toNat) by omega]
      exact sq_forward h e k _ (by omega)
def rowL (taps : List Int) (N : Nat) : List Int := (List.range N).map fun i => sq taps i
theorem rowL_len {taps : List Int} {N : Nat} : (rowL taps N).length = N := by simp [rowL]
theorem rowL_get {taps : List Int} {N i : Nat} (h : i < N) : (rowL taps N).getD i 0 = sq taps i := by simp [rowL, List.getD_eq_getElem?_getD, h]
theorem strewn_row {taps : List Int} (h : TapsF taps) (k : Nat) : strewnL taps [] (List.replicate (farN taps - 1) 0 ++ [1] ++ List.replicate k 0) = rowL taps (farN taps + k) := by
  have p := h.pos
  have e : List.replicate (farN taps - 1) 0 ++ [1] ++ List.replicate k 0 = unitL (farN taps + k) ((farN taps : Int) - 1) := by
    refine getD_ext (by simp [unit_len]; omega) fun i hi => ?_
    have hi2 : i < farN taps + k := by
      simp only [List.length_append, List.length_replicate, List.length_cons, List.length_nil] at hi; omega
    rw [unit_get hi2, List.append_assoc, zeros_get]
    by_cases h1 : i < farN taps - 1
    · rw [if_pos h1, if_neg (by omega)]
    · rw [if_neg h1]
      by_cases h2 : i = farN taps - 1
      · rw [if_pos (by omega), h2, Nat.sub_self]; rfl
      · rw [if_neg (by omega)]
        obtain ⟨j, hj⟩ : ∃ j, i - (farN taps - 1) = j + 1 := ⟨i - (farN taps - 1) - 1, by omega⟩
        rw [hj]
        show (List.replicate k (0 : Int)).getD j 0 = 0
        rw [List.getD_eq_getElem?_getD, List.getElem?_replicate]
        split <;> rfl
  rw [e]
  refine getD_ext (by rw [strewn_len h.one, unit_len, rowL_len]) fun i hi => ?_
  rw [strewn_len h.one, unit_len] at hi
  rw [sq_at h.one hi, rowL_get hi]
theorem row_win {taps : List Int} {N k : Nat} (h : k + farN taps ≤ N) : ((rowL taps N).take (k + farN taps)).drop k = wn taps k := by
  refine getD_ext (by simp [rowL_len, wn_len]; omega) fun i hi => ?_
  have hi : i < farN taps := by simp [rowL_len] at hi; omega
  rw [wn_get hi, List.getD_eq_getElem?_getD, List.getElem?_drop, List.getElem?_take_of_lt (by omega), ← List.getD_eq_getElem?_getD, rowL_get (by omega)]
theorem row_end {taps : List Int} {N k : Nat} (h : k + farN taps = N) : (rowL taps N).drop k = wn taps k := by
  rw [← row_win (taps := taps) (N := N) (k := k) (by omega), List.take_of_length_le (by rw [rowL_len]; omega)]
theorem row_first {taps : List Int} {N : Nat} (h : farN taps ≤ N) : (rowL taps N).take (farN taps) = wn taps 0 := by
  have := row_win (taps := taps) (N := N) (k := 0) (by omega)
  rw [Nat.zero_add, List.drop_zero] at this
  exact this
theorem row_halves {taps : List Int} (h : TapsF taps) {N R : Nat} (e : same taps R) (hN : 2 * R ≤ N) : (rowL taps N).take R = ((rowL taps N).take (2 * R)).drop R := by
  refine getD_ext (by simp [rowL_len]; omega) fun i hi => ?_
  have hi : i < R := by simp [rowL_len] at hi; omega
  rw [take_getD hi, rowL_get (by omega), List.getD_eq_getElem?_getD, List.getElem?_drop, List.getElem?_take_of_lt (by omega), ← List.getD_eq_getElem?_getD, rowL_get (by omega), sq_forward h e (i + 1) i (by omega)]
theorem same_twice {taps : List Int} (h : TapsF taps) {R : Nat} (e : same taps R) : wn taps (2 * R) = wn taps 0 := wn_eq.mpr fun j hj => by
  rw [show 2 * R + j = R + (R + j) by omega, sq_forward h e (R + j + 1) (R + j) (by omega), sq_forward h e (j + 1) j (by omega)]
end Pv
namespace Pv
open PySem PySem.Spec PyProof.Rows L2
/-! ## comprehensions and loops, by what they tell -/
section
variable {ρ : Nat → Fn}
theorem comp_map {α : Type} {n : Nat} {own : List Nat} {t : T} {e : E} {env env0 : Ev} (enc : α → D) (g : α → D) (l : List α)
    (h : ∀ a ∈ l, ∃ env1, bindT t (enc a) 0 (wipeE own env) = some env1 ∧ ∃ p env2, (evP ρ e).1 env1 = .ok p env2 ∧ okd n p = true ∧ p.1 = g a ∧ rst own env0 env2 = env) :
    cloop n own t env0 (evOT ρ .no) (evP ρ e).1 (l.map enc) env = .ok (l.map g) env := by
  induction l with
  | nil => rfl
  | cons a l ih =>
    obtain ⟨env1, h1, p, env2, h2, h3, h4, h5⟩ := h a List.mem_cons_self
    have ih := ih fun b hb => h b (List.mem_cons_of_mem _ hb)
    rw [List.map_cons]
    show (match bindT t (enc a) 0 (wipeE own env) with
      | none => (Res.bad : Res (List D))
      | some env1 => match evOT ρ .no env1 with
        | .ok true env2 => (match (evP ρ e).1 env2 with
          | .ok p env3 => if okd n p = true then (cloop n own t env0 (evOT ρ .no) (evP ρ e).1 (l.map enc) (rst own env0 env3)).bind fun ys env4 => .ok (p.1 :: ys) env4 else .bad
          | _ => .bad)
        | .ok false env2 => cloop n own t env0 (evOT ρ .no) (evP ρ e).1 (l.map enc) (rst own env0 env2)
        | _ => .bad) = _
    rw [h1]
    show (match (evP ρ e).1 env1 with
      | .ok p env3 => if okd n p = true then (cloop n own t env0 (evOT ρ .no) (evP ρ e).1 (l.map enc) (rst own env0 env3)).bind fun ys env4 => .ok (p.1 :: ys) env4 else .bad
      | _ => (.bad : Res (List D))) = _
    rw [h2]
    show (if okd n p = true then (cloop n own t env0 (evOT ρ .no) (evP ρ e).1 (l.map enc) (rst own env0 env2)).bind fun ys env4 => .ok (p.1 :: ys) env4 else .bad) = _
    rw [if_pos h3, h5, ih, h4]
    rfl
theorem kcomp_n {n : Nat} {own : List Nat} {t : T} {c : OE} {e : E} {xs : List D} {env env2 : Ev} {ys : List D} (h1 : ownOk own env = true) (h2 : cloop n own t env (evOT ρ c) (evP ρ e).1 xs env = .ok ys env2) : kComp ρ n own t c e xs env = .ok (.lst ys, n + 1) env2 := by
  unfold kComp
  rw [if_pos h1, h2]
  rfl
theorem kcomp_map {α : Type} {n : Nat} {own : List Nat} {t : T} {e : E} {env : Ev} (enc : α → D) (g : α → D) (l : List α) (ho : ownOk own env = true)
    (h : ∀ a ∈ l, ∃ env1, bindT t (enc a) 0 (wipeE own env) = some env1 ∧ ∃ p env2, (evP ρ e).1 env1 = .ok p env2 ∧ okd n p = true ∧ p.1 = g a ∧ rst own env env2 = env) :
    kComp ρ n own t .no e (l.map enc) env = .ok (.lst (l.map g), n + 1) env := kcomp_n ho (comp_map enc g l h)
/-- with a test -/
theorem comp_filt {α : Type} {n : Nat} {own : List Nat} {t : T} {c : OE} {e : E} {env env0 : Ev} (enc : α → D) (p : α → Bool) (g : α → D) (l : List α)
    (h : ∀ a ∈ l, ∃ env1, bindT t (enc a) 0 (wipeE own env) = some env1 ∧ ∃ env2, evOT ρ c env1 = .ok (p a) env2 ∧ (p a = true → ∃ q env3, (evP ρ e).1 env2 = .ok q env3 ∧ okd n q = true ∧ q.1 = g a ∧ rst own env0 env3 = env) ∧ (p a = false → rst own env0 env2 = env)) :
    cloop n own t env0 (evOT ρ c) (evP ρ e).1 (l.map enc) env = .ok ((l.filter p).map g) env := by
  induction l with
  | nil => rfl
  | cons a l ih =>
    obtain ⟨env1, h1, env2, h2, h3, h4⟩ := h a List.mem_cons_self
    have ih := ih fun b hb => h b (List.mem_cons_of_mem _ hb)
    rw [List.map_cons]
    show (match bindT t (enc a) 0 (wipeE own env) with
      | none => (Res.bad : Res (List D))
      | some env1 => match evOT ρ c env1 with
        | .ok true env2 => (match (evP ρ e).1 env2 with
          | .ok p env3 => if okd n p = true then (cloop n own t env0 (evOT ρ c) (evP ρ e).1 (l.map enc) (rst own env0 env3)).bind fun ys env4 => .ok (p.1 :: ys) env4 else .bad
          | _ => .bad)
        | .ok false env2 => cloop n own t env0 (evOT ρ c) (evP ρ e).1 (l.map enc) (rst own env0 env2)
        | _ => .bad) = _
    rw [h1]
    show (match evOT ρ c env1 with
        | .ok true env2 => (match (evP ρ e).1 env2 with
          | .ok p env3 => if okd n p = true then (cloop n own t env0 (evOT ρ c) (evP ρ e).1 (l.map enc) (rst own env0 env3)).bind fun ys env4 => .ok (p.1 :: ys) env4 else .bad
          | _ => .bad)
        | .ok false env2 => cloop n own t env0 (evOT ρ c) (evP ρ e).1 (l.map enc) (rst own env0 env2)
        | _ => (.bad : Res (List D))) = _
    rw [h2]
    cases hp : p a with
    | true =>
      obtain ⟨q, env3, k1, k2, k3, k4⟩ := h3 hp
      show (match (evP ρ e).1 env2 with
          | .ok p env3 => if okd n p = true then (cloop n own t env0 (evOT ρ c) (evP ρ e).1 (l.map enc) (rst own env0 env3)).bind fun ys env4 => .ok (p.1 :: ys) env4 else .bad
          | _ => (.bad : Res (List D))) = _
      rw [k1]
      show (if okd n q = true then (cloop n own t env0 (evOT ρ c) (evP ρ e).1 (l.map enc) (rst own env0 env3)).bind fun ys env4 => .ok (q.1 :: ys) env4 else .bad) = _
      rw [if_pos k2, k4, ih, k3, List.filter_cons_of_pos hp]
      rfl
    | false =>
      show cloop n own t env0 (evOT ρ c) (evP ρ e).1 (l.map enc) (rst own env0 env2) = _
      rw [h4 hp, ih, List.filter_cons_of_neg (by rw [hp]; exact Bool.false_ne_true)]
theorem kcomp_filt {α : Type} {n : Nat} {own : List Nat} {t : T} {c : OE} {e : E} {env : Ev} (enc : α → D) (p : α → Bool) (g : α → D) (l : List α) (ho : ownOk own env = true)
    (h : ∀ a ∈ l, ∃ env1, bindT t (enc a) 0 (wipeE own env) = some env1 ∧ ∃ env2, evOT ρ c env1 = .ok (p a) env2 ∧ (p a = true → ∃ q env3, (evP ρ e).1 env2 = .ok q env3 ∧ okd n q = true ∧ q.1 = g a ∧ rst own env env3 = env) ∧ (p a = false → rst own env env2 = env)) :
    kComp ρ n own t c e (l.map enc) env = .ok (.lst ((l.filter p).map g), n + 1) env := kcomp_n ho (comp_filt enc p g l h)
/-- nothing passes the test -/
theorem kcomp_none {α : Type} {n : Nat} {own : List Nat} {t : T} {c : OE} {e : E} {env : Ev} (enc : α → D) (l : List α) (ho : ownOk own env = true)
    (h : ∀ a ∈ l, ∃ env1, bindT t (enc a) 0 (wipeE own env) = some env1 ∧ ∃ env2, evOT ρ c env1 = .ok false env2 ∧ rst own env env2 = env) :
    kComp ρ n own t c e (l.map enc) env = .ok (.lst [], n + 1) env := by
  have := kcomp_filt (ρ := ρ) (n := n) (t := t) (c := c) (e := e) enc (fun _ => false) (fun _ => D.non) l ho fun a ha => by
    obtain ⟨env1, h1, env2, h2, h3⟩ := h a ha
    exact ⟨env1, h1, env2, h2, ⟨fun z => absurd z Bool.false_ne_true, fun _ => h3⟩⟩
  rw [show l.filter (fun _ => false) = [] by simp] at this
  exact this
/-- a comprehension of draws: what it tells, and what becomes of the slots -/
theorem kcomp_st {n : Nat} {own : List Nat} {t : T} {e : E} {env : Ev} (P : Ev → Prop) (R : D → Prop) (ds : List D) (ho : ownOk own env = true) (h0 : P env)
    (h : ∀ d ∈ ds, ∀ env', P env' → ∃ env1 p env2, bindT t d 0 (wipeE own env') = some env1 ∧ (evP ρ e).1 env1 = .ok p env2 ∧ okd n p = true ∧ R p.1 ∧ P (rst own env env2)) :
    ∃ ys env', kComp ρ n own t .no e ds env = .ok (.lst ys, n + 1) env' ∧ P env' ∧ ys.length = ds.length ∧ ∀ y ∈ ys, R y := by
  obtain ⟨ys, env', h1, h2, h3, h4⟩ := cloop_inv (ρ := ρ) (n := n) (own := own) (t := t) (env0 := env) (e := (evP ρ e).1) (fun _ env => P env) (fun _ y => R y) (ds := ds) (env := env) (k := 0) h0 fun i d env1 hd hp => h d (List.mem_of_getElem? hd) env1 hp
  exact ⟨ys, env', kcomp_n ho h1, h2, h3, fun y hy => by
    obtain ⟨i, hi⟩ := List.getElem?_of_mem hy
    exact h4 i y hi⟩
/-- a while loop by something that grows less -/
theorem wloop_dec {c : Ev → Res Bool} {b : Ev → Res Fl} (P : Ev → Prop) (Q : Ev → Prop) (μ : Ev → Nat)
    (h : ∀ env, P env → (c env = .ok false env ∧ Q env) ∨ ∃ env1 env2, c env = .ok true env1 ∧ (b env1 = .ok .nx env2 ∨ b env1 = .ok .cnt env2) ∧ P env2 ∧ μ env2 < μ env) :
    ∀ {fuel : Nat} {env : Ev}, P env → μ env < fuel → ∃ env', wloop c b fuel env = .ok .nx env' ∧ Q env'
  | 0, env, hp, hf => by omega
  | n + 1, env, hp, hf => by
    rcases h env hp with ⟨h1, h2⟩ | ⟨env1, env2, h1, h2, h3, h4⟩
    · refine ⟨env, ?_, h2⟩
      unfold wloop
      rw [h1]; rfl
    · obtain ⟨env', h5, h6⟩ := wloop_dec P Q μ h (fuel := n) (env := env2) h3 (by omega)
      refine ⟨env', ?_, h6⟩
      unfold wloop
      rw [h1]
      show (if true = true then (match b env1 with
        | .ok .nx env2 => wloop c b n env2
        | .ok .cnt env2 => wloop c b n env2
        | .ok .brk env2 => .ok .nx env2
        | r => r) else .ok .nx env1) = _
      rw [if_pos rfl]
      rcases h2 with h2 | h2 <;> (rw [h2]; exact h5)
/-- a for loop that keeps something -/
theorem floop_st {t : T} {b : Ev → Res Fl} (P : Ev → Prop) {ds : List D} {env : Ev} (h0 : P env) (h : ∀ d ∈ ds, ∀ env, P env → ∃ env1 env2, bindT t d 0 env = some env1 ∧ (b env1 = .ok .nx env2 ∨ b env1 = .ok .cnt env2) ∧ P env2) : ∃ env', floop t b ds env = .ok .nx env' ∧ P env' := by
  obtain ⟨env', h1, h2⟩ := floop_inv (t := t) (b := b) (fun _ env => P env) (ds := ds) (env := env) (k := 0) h0 fun i d env hd hp => h d (List.mem_of_getElem? hd) env hp
  exact ⟨env', h1, h2⟩
end
theorem mem_rangeL {n : Nat} {d : D} (h : d ∈ rangeL 0 1 n) : ∃ i : Nat, i < n ∧ d = .int (i : Int) := by
  obtain ⟨i, hi⟩ := List.getElem?_of_mem h
  obtain ⟨h1, rfl⟩ := rangeL_get hi
  exact ⟨i, h1, by rw [show (0 : Int) + (i : Int) * 1 = (i : Int) by omega]⟩
theorem rangeL_map (n : Nat) : rangeL 0 1 n = (List.range n).map fun (i : Nat) => D.int (i : Int) := by
  unfold rangeL
  refine List.map_congr_left fun i _ => ?_
  rw [show (0 : Int) + (i : Int) * 1 = (i : Int) by omega]
theorem strs_of {p : List Nat → Prop} : ∀ {ys : List D}, (∀ y ∈ ys, ∃ w, y = .str w ∧ p w) → ∃ l : List (List Nat), ys = l.map .str ∧ ∀ w ∈ l, p w
  | [], _ => ⟨[], rfl, fun _ h => nomatch h⟩
  | y :: ys, h => by
    obtain ⟨w, rfl, hw⟩ := h y List.mem_cons_self
    obtain ⟨l, rfl, hl⟩ := strs_of (ys := ys) fun z hz => h z (List.mem_cons_of_mem _ hz)
    exact ⟨w :: l, rfl, fun v hv => (List.mem_cons.mp hv).elim (fun e => e ▸ hw) (hl v)⟩
theorem ints_ofM {p : Int → Prop} : ∀ {ys : List D}, (∀ y ∈ ys, ∃ x, y = .int x ∧ p x) → ∃ l : List Int, ys = l.map .int ∧ ∀ x ∈ l, p x
  | [], _ => ⟨[], rfl, fun _ h => nomatch h⟩
  | y :: ys, h => by
    obtain ⟨w, rfl, hw⟩ := h y List.mem_cons_self
    obtain ⟨l, rfl, hl⟩ := ints_ofM (ys := ys) fun z hz => h z (List.mem_cons_of_mem _ hz)
    exact ⟨w :: l, rfl, fun v hv => (List.mem_cons.mp hv).elim (fun e => e ▸ hw) (hl v)⟩
/-- something of a list, by a number below its length -/
theorem at_mem {α : Type} {l : List α} (f : α → D) {r : Int} (h0 : 0 ≤ r) (h1 : r < l.length) : ∃ x ∈ l, l[r.toNat]? = some x ∧ L2.atI (l.map f) r = some (f x) := by
  have hlt : r.toNat < l.length := by omega
  refine ⟨l[r.toNat], List.getElem_mem hlt, List.getElem?_eq_getElem hlt, ?_⟩
  unfold L2.atI ixN
  rw [if_pos h0, if_pos (by rw [List.length_map]; exact h1)]
  simp [hlt]
theorem at_get {α : Type} {l : List α} (f : α → D) {r : Int} {x : α} (h0 : 0 ≤ r) (h1 : l[r.toNat]? = some x) : L2.atI (l.map f) r = some (f x) := by
  have hlt : r.toNat < l.length := (List.getElem?_eq_some_iff.mp h1).1
  unfold L2.atI ixN
  rw [if_pos h0, if_pos (by rw [List.length_map]; omega)]
  simp [h1]
theorem join0 (ys : List (List Nat)) : (Txt.join (Str.ofString "") (ys.map sv)).cps.toList = ys.flatten := by
  rw [TL.join_eq]
  induction ys with
  | nil => rfl
  | cons y ys ih =>
    cases ys with
    | nil => show y.toArray.toList = _; simp
    | cons z zs =>
      show (sv y ++ Str.ofString "" ++ Str.join (Str.ofString "") ((z :: zs).map sv)).cps.toList = _
      have e : (sv y ++ Str.ofString "" ++ Str.join (Str.ofString "") ((z :: zs).map sv)).cps.toList = y ++ [] ++ (Str.join (Str.ofString "") ((z :: zs).map sv)).cps.toList := by
        show (y.toArray ++ (Str.ofString "").cps ++ (Str.join (Str.ofString "") ((z :: zs).map sv)).cps).toList = _
        have e2 : (Str.ofString "").cps = #[] := by decide
        rw [e2]; simp
      rw [e, ih]; simp
theorem strsOf_map : ∀ l : List (List Nat), strsOf (l.map D.str) = some l
  | [] => rfl
  | x :: l => by
    show (strsOf (l.map D.str)).map (x :: ·) = _
    rw [strsOf_map l]; rfl
theorem flat_len (l : List (List Nat)) : (l.map List.length).sum = l.flatten.length := by rw [List.length_flatten]
theorem oCk_join0 {ws : List (List Nat)} (h : ws.flatten.length ≤ 1000000) : oCk .join (Str.ofString "") (.lst (ws.map .str)) = some (.str ws.flatten, 0) := by
  show (strsOf (ws.map .str)).bind _ = _
  rw [strsOf_map]
  show (if (ws.map List.length).sum + ws.length * (Str.ofString "").length ≤ big then some (D.str (Txt.join (Str.ofString "") (ws.map sv)).cps.toList, 0) else none) = _
  rw [join0, flat_len, if_pos]
  have h3 : (Str.ofString "").length = 0 := by decide
  rw [h3]
  show _ ≤ 16777216
  omega
end Pv
namespace Pv
open PySem PySem.Spec PyProof.Rows L2
/-! ## codes -/
theorem mutL_app {k : Nat} {ds : List D} {p : D × Nat} : mutL .append k ds [p] = if okd k p && decide (ds.length < big) then some ((.non, 0), ds ++ [p.1]) else none := rfl
def lendS (is : List Nat) (j : Nat) (s : Slot) : Slot := match s with
  | none => none
  | some (d, k) => if k = 0 then some (d, 0) else if is.contains j then some (d, 0) else none
theorem lendE_nil {is : List Nat} {j : Nat} : lendE is j [] = [] := rfl
theorem lendE_cons {is : List Nat} {j : Nat} {s : Slot} {r : Ev} : lendE is j (s :: r) = lendS is j s :: lendE is (j + 1) r := by
  cases s with
  | none => rfl
  | some p => rfl
theorem lendS_none {is : List Nat} {j : Nat} : lendS is j none = none := rfl
theorem lendS_some {is : List Nat} {j k : Nat} {d : D} : lendS is j (some (d, k)) = if k = 0 then some (d, 0) else if is.contains j then some (d, 0) else none := rfl
section
variable {ρ : Nat → Fn}
def kR3 (a b c : D) (env : Ev) : Res (List D) := match a, b, c with
  | .int i, .int j, .int c => if c ≠ 0 ∧ c.natAbs < 1073741824 ∧ Builtin.Range.small i j c = true ∧ (Builtin.Range.rangeSize i j c).toNat ≤ big then .ok (rangeL i c (Builtin.Range.rangeSize i j c).toNat) env else .bad
  | _, _, _ => .bad
def kR3c (p q r : D × Nat) (env : Ev) : Res (List D) := kR3 p.1 q.1 r.1 env
def kR3b (ρ : Nat → Fn) (c : E) (p q : D × Nat) (env : Ev) : Res (List D) := ((evP ρ c).1 env).bind (kR3c p q)
def kR3a (ρ : Nat → Fn) (b c : E) (p : D × Nat) (env : Ev) : Res (List D) := ((evP ρ b).1 env).bind (kR3b ρ c p)
theorem i_rng3 {a b c : E} {env : Ev} : evI ρ (.rng3 a b c) env = ((evP ρ a).1 env).bind (kR3a ρ b c) := rfl
theorem kR3_ok {i j c : Int} {m : Nat} (h0 : c ≠ 0) (h1 : c.natAbs < 1073741824) (h2 : Builtin.Range.small i j c = true) (h3 : (Builtin.Range.rangeSize i j c).toNat = m) (h4 : m ≤ 16777216) (env : Ev) : kR3 (.int i) (.int j) (.int c) env = .ok (rangeL i c m) env := by
  show (if c ≠ 0 ∧ c.natAbs < 1073741824 ∧ Builtin.Range.small i j c = true ∧ (Builtin.Range.rangeSize i j c).toNat ≤ big then Res.ok (rangeL i c (Builtin.Range.rangeSize i j c).toNat) env else .bad) = _
  rw [if_pos ⟨h0, h1, h2, by rw [h3]; exact h4⟩, h3]
end
theorem r_nxE {env : Ev} {io : Nat} : endF io (.ok .nx env) = (match getSlots env (upto 0 io) with
    | some outs => .ok .non 0 outs
    | none => .bad) := rfl
abbrev Br := List Nat × Int
def brD (p : Br) : D := .tup [.str p.1, .int p.2]
def stD (row : List Br) : D := .lst (row.map brD)
def cdD (k n : Int) (states : List (List Br)) : D := .tup [.int k, .int n, .lst (states.map stD)]
def BitW (n : Nat) (w : List Nat) : Prop := w.length = n ∧ ∀ c ∈ w, c = 48 ∨ c = 49
structure BrOk (n many : Nat) (p : Br) : Prop where
  w : BitW n p.1
  lo : 0 ≤ p.2
  hi : p.2 < many
structure Code (k n : Int) (states : List (List Br)) : Prop where
  k1 : 1 ≤ k
  k3 : k ≤ 3
  n1 : 1 ≤ n
  n6 : n ≤ 6
  l1 : 1 ≤ states.length
  l8 : states.length ≤ 8
  sz : ∀ st ∈ states, st.length = 2 ^ k.toNat
  br : ∀ st ∈ states, ∀ p ∈ st, BrOk n.toNat states.length p
def stAt (states : List (List Br)) (s : Int) : List Br := states.getD s.toNat []
def brAt (states : List (List Br)) (s l : Int) : Br := (stAt states s).getD l.toNat ([], 0)
/-- what is sent of a text from a state, and the state behind -/
def sentL (states : List (List Br)) : Int → List Int → List (List Nat) × Int
  | s, [] => ([], s)
  | s, l :: r => ((brAt states s l).1 :: (sentL states (brAt states s l).2 r).1, (sentL states (brAt states s l).2 r).2)
def wireL (states : List (List Br)) (s : Int) (text : List Int) : List Nat := (sentL states s text).1.flatten
def endL (states : List (List Br)) (s : Int) (text : List Int) : Int := (sentL states s text).2
def LetOk (k : Int) (text : List Int) : Prop := ∀ l ∈ text, 0 ≤ l ∧ l < 2 ^ k.toNat
section
variable {k n : Int} {states : List (List Br)}
theorem Code.st_at (c : Code k n states) {s : Int} (h0 : 0 ≤ s) (h1 : s < states.length) : stAt states s ∈ states ∧ L2.atI (states.map stD) s = some (stD (stAt states s)) := by
  obtain ⟨x, hx, e1, e2⟩ := at_mem stD h0 h1
  have : stAt states s = x := by unfold stAt; rw [List.getD_eq_getElem?_getD, e1]; rfl
  rw [this]
  exact ⟨hx, e2⟩
theorem Code.br_at (c : Code k n states) {s l : Int} (h0 : 0 ≤ s) (h1 : s < states.length) (h2 : 0 ≤ l) (h3 : l < 2 ^ k.toNat) : L2.atI ((stAt states s).map brD) l = some (brD (brAt states s l)) ∧ BrOk n.toNat states.length (brAt states s l) := by
  obtain ⟨hm, _⟩ := c.st_at h0 h1
  have hl := c.sz _ hm
  have h3' : l < ((stAt states s).length : Int) := by rw [hl]; rw [Int.natCast_pow]; exact h3
  obtain ⟨x, hx, e1, e2⟩ := at_mem brD h2 h3'
  have : brAt states s l = x := by unfold brAt; rw [List.getD_eq_getElem?_getD, e1]; rfl
  rw [this]
  exact ⟨e2, c.br _ hm x hx⟩
theorem sent_app (states : List (List Br)) : ∀ (s : Int) (a b : List Int), sentL states s (a ++ b) = ((sentL states s a).1 ++ (sentL states (sentL states s a).2 b).1, (sentL states (sentL states s a).2 b).2)
  | s, [], b => rfl
  | s, x :: a, b => by
    show ((brAt states s x).1 :: (sentL states (brAt states s x).2 (a ++ b)).1, (sentL states (brAt states s x).2 (a ++ b)).2) = _
    rw [sent_app states _ a b]
    rfl
theorem wire_app (states : List (List Br)) (s : Int) (a b : List Int) : wireL states s (a ++ b) = wireL states s a ++ wireL states (endL states s a) b ∧ endL states s (a ++ b) = endL states (endL states s a) b := by
  unfold wireL endL
  rw [sent_app]
  exact ⟨List.flatten_append, rfl⟩
theorem sent_words (c : Code k n states) : ∀ {text : List Int} {s : Int}, LetOk k text → 0 ≤ s → s < states.length → (∀ w ∈ (sentL states s text).1, BitW n.toNat w) ∧ (sentL states s text).1.length = text.length ∧ 0 ≤ (sentL states s text).2 ∧ (sentL states s text).2 < states.length
  | [], s, _, h0, h1 => ⟨(fun _ h => nomatch h), rfl, h0, h1⟩
  | l :: r, s, ht, h0, h1 => by
    obtain ⟨q1, q2⟩ := ht l List.mem_cons_self
    obtain ⟨_, b⟩ := c.br_at h0 h1 q1 q2
    obtain ⟨a1, a2, a3, a4⟩ := sent_words c (text := r) (s := (brAt states s l).2) (fun x hx => ht x (List.mem_cons_of_mem _ hx)) b.lo b.hi
    refine ⟨fun w hw => ?_, congrArg (· + 1) a2, a3, a4⟩
    rcases List.mem_cons.mp hw with z | z
    · rw [z]; exact b.w
    · exact a1 w z
theorem flat_same {m : Nat} : ∀ {ws : List (List Nat)}, (∀ w ∈ ws, w.length = m) → ws.flatten.length = ws.length * m
  | [], _ => by simp
  | w :: ws, h => by
    rw [List.flatten_cons, List.length_append, h w List.mem_cons_self, flat_same fun v hv => h v (List.mem_cons_of_mem _ hv), List.length_cons, Nat.succ_mul, Nat.add_comm]
theorem wire_len (c : Code k n states) {text : List Int} {s : Int} (ht : LetOk k text) (h0 : 0 ≤ s) (h1 : s < states.length) : (wireL states s text).length = text.length * n.toNat := by
  obtain ⟨a, b, _⟩ := sent_words c ht h0 h1
  unfold wireL
  rw [flat_same (m := n.toNat) fun w hw => (a w hw).1, b]
theorem end_rng (c : Code k n states) {text : List Int} {s : Int} (ht : LetOk k text) (h0 : 0 ≤ s) (h1 : s < states.length) : 0 ≤ endL states s text ∧ endL states s text < states.length := (sent_words c ht h0 h1).2.2
theorem LetOk.take {text : List Int} (h : LetOk k text) (m : Nat) : LetOk k (text.take m) := fun l hl => h l (List.mem_of_mem_take hl)
theorem LetOk.drop {text : List Int} (h : LetOk k text) (m : Nat) : LetOk k (text.drop m) := fun l hl => h l (List.mem_of_mem_drop hl)
end
/-! ### texts as == asks -/
theorem bit_dle {n : Nat} {w : List Nat} (h : BitW n w) : dLe 0 (.str w) = true := by
  show PyData.strOk (sv w) = true
  unfold PyData.strOk
  rw [← Array.all_toList, List.all_eq_true]
  intro c hc
  have := h.2 c hc
  exact decide_eq_true (by omega)
theorem str_dle {w : List Nat} (h : ∀ c ∈ w, c < 1000) : dLe 0 (.str w) = true := by
  show PyData.strOk (sv w) = true
  unfold PyData.strOk
  rw [← Array.all_toList, List.all_eq_true]
  intro c hc
  have := h c hc
  exact decide_eq_true (by omega)
theorem br_dle {n many : Nat} {p : Br} (h : BrOk n many p) : dLe 1 (brD p) = true := by
  show (dLe 0 (.str p.1) && (dLe 0 (.int p.2) && true)) = true
  rw [bit_dle h.w]; rfl
theorem st_dle {n many : Nat} {row : List Br} (h : ∀ p ∈ row, BrOk n many p) : dLe 2 (stD row) = true := by
  show dLeL 1 (row.map brD) = true
  refine dLeL_all fun d hd => ?_
  obtain ⟨p, hp, rfl⟩ := List.mem_map.mp hd
  exact br_dle (h p hp)
theorem code_dle {k n : Int} {states : List (List Br)} (h : Code k n states) : dLe 4 (cdD k n states) = true := by
  have h1 : dLeL 2 (states.map stD) = true := dLeL_all fun d hd => by
    obtain ⟨row, hr, rfl⟩ := List.mem_map.mp hd
    exact st_dle (h.br row hr)
  show (dLe 3 (.int k) && (dLe 3 (.int n) && (dLeL 2 (states.map stD) && true))) = true
  rw [h1]; rfl
theorem code_eq {k n : Int} {states : List (List Br)} (h : Code k n states) : oEq (cdD k n states) (cdD k n states) = some true := oEq_refl (code_dle h) (by decide)
theorem wire_chars {k n : Int} {states : List (List Br)} (c : Code k n states) {text : List Int} {s : Int} (ht : LetOk k text) (h0 : 0 ≤ s) (h1 : s < states.length) : ∀ x ∈ wireL states s text, x = 48 ∨ x = 49 := fun x hx => by
  obtain ⟨w, hw, hx⟩ := List.mem_flatten.mp hx
  exact ((sent_words c ht h0 h1).1 w hw).2 x hx
/-! ### bits and letters -/
def numB (bits : List Int) : Int := bits.foldl (fun a b => 2 * a + b) 0
def bitsOf (k : Int) (letter : Int) : List Int := (List.range k.toNat).map fun j => letter / 2 ^ (k.toNat - 1 - j) % 2
theorem bitsOf_len {k l : Int} : (bitsOf k l).length = k.toNat := by simp [bitsOf]
theorem bits_num {k : Int} (h1 : 1 ≤ k) (h3 : k ≤ 3) {c : List Int} (hl : c.length = k.toNat) (hb : ∀ x ∈ c, x = 0 ∨ x = 1) : bitsOf k (numB c) = c ∧ 0 ≤ numB c ∧ numB c < 2 ^ k.toNat := by
  have : k = 1 ∨ k = 2 ∨ k = 3 := by omega
  rcases this with rfl | rfl | rfl
  · match c, hl with
    | [x], _ =>
      rcases hb x (by simp) with rfl | rfl <;> exact ⟨by decide, by decide, by decide⟩
  · match c, hl with
    | [x, y], _ =>
      rcases hb x (by simp) with rfl | rfl <;> rcases hb y (by simp) with rfl | rfl <;> exact ⟨by decide, by decide, by decide⟩
  · match c, hl with
    | [x, y, z], _ =>
      rcases hb x (by simp) with rfl | rfl <;> rcases hb y (by simp) with rfl | rfl <;> rcases hb z (by simp) with rfl | rfl <;> exact ⟨by decide, by decide, by decide⟩
theorem num_bits {k : Int} (h1 : 1 ≤ k) (h3 : k ≤ 3) {l : Int} (h0 : 0 ≤ l) (hl : l < 2 ^ k.toNat) : numB (bitsOf k l) = l ∧ ∀ x ∈ bitsOf k l, x = 0 ∨ x = 1 := by
  refine ⟨?_, fun x hx => ?_⟩
  · have : k = 1 ∨ k = 2 ∨ k = 3 := by omega
    rcases this with rfl | rfl | rfl
    · have hl : l < 2 := hl
      have : l = 0 ∨ l = 1 := by omega
      rcases this with rfl | rfl <;> decide
    · have hl : l < 4 := hl
      have : l = 0 ∨ l = 1 ∨ l = 2 ∨ l = 3 := by omega
      rcases this with rfl | rfl | rfl | rfl <;> decide
    · have hl : l < 8 := hl
      have : l = 0 ∨ l = 1 ∨ l = 2 ∨ l = 3 ∨ l = 4 ∨ l = 5 ∨ l = 6 ∨ l = 7 := by omega
      rcases this with rfl | rfl | rfl | rfl | rfl | rfl | rfl | rfl <;> decide
  · obtain ⟨j, _, rfl⟩ := List.mem_map.mp hx
    omega
def bitsL (k : Int) (text : List Int) : List Int := text.flatMap (bitsOf k)
theorem bitsL_len {k : Int} : ∀ {text : List Int}, (bitsL k text).length = text.length * k.toNat
  | [] => by simp [bitsL]
  | l :: r => by
    show (bitsOf k l ++ bitsL k r).length = _
    rw [List.length_append, bitsOf_len, bitsL_len, List.length_cons, Nat.succ_mul, Nat.add_comm]
/-- bits are those of letters -/
theorem letters_ex {k : Int} (h1 : 1 ≤ k) (h3 : k ≤ 3) : ∀ {m : Nat} {bits : List Int}, bits.length = m * k.toNat → (∀ x ∈ bits, x = 0 ∨ x = 1) → ∃ text, bits = bitsL k text ∧ LetOk k text ∧ text.length = m
  | 0, bits, hl, _ => ⟨[], by rw [List.length_eq_zero_iff.mp (by omega : bits.length = 0)]; rfl, (fun _ h => nomatch h), rfl⟩
  | m + 1, bits, hl, hb => by
    rw [Nat.succ_mul] at hl
    obtain ⟨text, e, ht, hn⟩ := letters_ex h1 h3 (m := m) (bits := bits.drop k.toNat) (by rw [List.length_drop]; omega) fun x hx => hb x (List.mem_of_mem_drop hx)
    obtain ⟨a1, a2, a3⟩ := bits_num h1 h3 (c := bits.take k.toNat) (by rw [List.length_take]; omega) fun x hx => hb x (List.mem_of_mem_take hx)
    refine ⟨numB (bits.take k.toNat) :: text, ?_, fun l hl => ?_, by rw [List.length_cons, hn]⟩
    · show bits = bitsOf k (numB (bits.take k.toNat)) ++ bitsL k text
      rw [a1, ← e, List.take_append_drop]
    · rcases List.mem_cons.mp hl with z | z
      · rw [z]; exact ⟨a2, a3⟩
      · exact ht l z
theorem bitsL_slice {k : Int} : ∀ {text : List Int} {i : Nat}, i < text.length → ((bitsL k text).take (i * k.toNat + k.toNat)).drop (i * k.toNat) = bitsOf k (text.getD i 0)
  | [], i, h => by simp at h
  | l :: r, 0, h => by
    rw [Nat.zero_mul, Nat.zero_add, List.drop_zero]
    show (bitsOf k l ++ bitsL k r).take k.toNat = bitsOf k l
    rw [List.take_append_of_le_length (by rw [bitsOf_len]; exact Nat.le_refl _), List.take_of_length_le (by rw [bitsOf_len]; exact Nat.le_refl _)]
  | l :: r, i + 1, h => by
    have ih := bitsL_slice (k := k) (text := r) (i := i) (by simpa using h)
    show ((bitsOf k l ++ bitsL k r).take ((i + 1) * k.toNat + k.toNat)).drop ((i + 1) * k.toNat) = bitsOf k (r.getD i 0)
    rw [← ih, Nat.succ_mul, show i * k.toNat + k.toNat + k.toNat = (bitsOf k l).length + (i * k.toNat + k.toNat) by rw [bitsOf_len]; omega, List.take_length_add_append, show i * k.toNat + k.toNat = (bitsOf k l).length + i * k.toNat by rw [bitsOf_len]; omega, List.drop_length_add_append]
theorem bitsL_bit {k : Int} {text : List Int} : ∀ x ∈ bitsL k text, x = 0 ∨ x = 1 := fun x hx => by
  obtain ⟨l, _, hx⟩ := List.mem_flatMap.mp hx
  obtain ⟨j, _, rfl⟩ := List.mem_map.mp hx
  omega
theorem pw_eq {k : Int} (h1 : 1 ≤ k) (h3 : k ≤ 3) : (2 : Int) * 2 ^ (k - 1).toNat = 2 ^ k.toNat := by
  have : k = 1 ∨ k = 2 ∨ k = 3 := by omega
  rcases this with rfl | rfl | rfl <;> rfl
end Pv
namespace Zk63
open PySem PySem.Spec PyProof.Rows L2 Pv
def top (i : Nat) : Stmt := PySem.Challenge.pw_ownbeat_k63_whole_there_and_back.main.body.getD i (.Pass ⟨0, 0, 0, 0⟩)
def mkd (i : Nat) (x : Str) : He.DefD := ⟨(x, none), x, x, defArgs (top i), defBody (top i), defScope (top i), [], []⟩
def fn : List He.DefD := [mkd 22 "_law_store", mkd 23 "_law_take", mkd 24 "_law_word", mkd 25 "_law_branch", mkd 26 "_law_code", mkd 16 "show", mkd 17 "figure_of", mkd 8 "is_whole", mkd 9 "is_pair", mkd 10 "is_state", mkd 11 "is_code", mkd 18 "branch_of", mkd 19 "read_code", mkd 28 "_law_rows", mkd 21 "_law_cell", mkd 31 "_law_other", mkd 12 "need_letters", mkd 13 "sent", mkd 29 "_law_sent", mkd 30 "_law_same", mkd 32 "law"]
def fa : List He.Fa := [.glo "_law_store", .glo "_law_take", .glo "_law_word", .glo "_law_branch", .glo "_law_code", .glo "show", .glo "figure_of", .glo "is_whole", .glo "is_pair", .glo "is_state", .glo "is_code", .glo "branch_of", .glo "read_code", .glo "_law_rows", .glo "_law_cell", .glo "_law_other", .glo "need_letters", .glo "sent", .glo "_law_sent", .glo "_law_same", .glo "law", .free "range", .free "len", .free "str", .free "int", .free "isinstance", .free "bool", .free "tuple", .free "list", .free "zip", .free "min", .free "max", .int "MOST_BITS" 3, .int "MOST_SIGNS" 6, .int "MOST_STATES" 8, .str "FIGURES" "0123456789"]
def gcs : List (Str × Const) := [("MOST_BITS", (.int 3)), ("MOST_SIGNS", (.int 6)), ("MOST_STATES", (.int 8)), ("FIGURES", (.str "0123456789"))]
abbrev R : PySem.W.OpenRow := PySem.W.OpenLaw.row PySem.Challenge.rw_ownbeat_k63_whole_there_and_back
abbrev hk : PySem.W.Hook := He.hookD 4 fa fn
def ob (s : PySem.W.SharedT) : He.AlD := He.obsDG 4 fa fn (HandSHeadRun.getT s)
theorem ob_eq (s : PySem.W.SharedT) : ob s = hk.obs s.abs := He.obsDG_eq (HandSHeadRun.getT_eq s)
def loose : List PySem.Str := ["is_whole", "is_pair", "is_state", "is_code", "need_letters", "sent", "show", "figure_of", "branch_of", "read_code", "_law_cell", "_law_store", "_law_take", "_law_word", "_law_branch", "_law_code", "_law_copy", "_law_rows", "_law_sent", "_law_same", "_law_other", "BeatError", "NoLetter", "NoText", "MOST_BITS", "MOST_SIGNS", "MOST_STATES", "FIGURES"]
theorem run (w : World) : HandSHeadRun.RunEq R (PySem.W.view R.prog [32]) hk ob 2000 loose w := by
  intro os
  kernel_rfl
def blt : List Str := ["range", "len", "str", "int", "isinstance", "bool", "tuple", "list", "zip", "min", "max"]
def cx (i io : Nat) (N : List Str) (fns : List (Str × Nat)) : Pv.Ctx := ⟨io, N, defScope (top i), fun _ => true, fns, blt, gcs, [], []⟩
def d0 : Df := ⟨"_law_store", 1, 0, ["cell", "great"], (.one (.set 1 (.cst (.int 0))) (.one (.ifs (.op (.cmp .ge) (.cons (.var 0) (.cons (.op (.bin .pow) (.cons (.cst (.int 10)) (.cons (.cst (.int 18)) .nil))) .nil))) (.one (.set 1 (.var 0)) .nil) .nil) (.one (.ret (.lst 0 (.cons (.var 1) (.cons (.op (.bin .mod) (.cons (.var 0) (.cons (.cst (.int 2147483629)) .nil))) (.cons (.cst (.int 1)) .nil))))) .nil)))⟩
def d1 : Df := ⟨"_law_take", 2, 1, ["store", "many", "one", "told"], (.one (.ifs (.op (.cmp .gt) (.cons (.idx 0 (.cst (.int 0))) (.cons (.cst (.int 0)) .nil))) (.one (.set 3 (.op (.bin .mod) (.cons (.idx 0 (.cst (.int 0))) (.cons (.var 1) .nil)))) (.one (.setix 0 (.cst (.int 0)) (.op (.bin .fdiv) (.cons (.idx 0 (.cst (.int 0))) (.cons (.var 1) .nil)))) (.one (.ret (.var 3)) .nil))) .nil) (.one (.setix 0 (.cst (.int 2)) (.op (.bin .add) (.cons (.idx 0 (.cst (.int 2))) (.cons (.cst (.int 1)) .nil)))) (.one (.set 2 (.op (.bin .mod) (.cons (.op (.bin .mul) (.cons (.op (.bin .add) (.cons (.idx 0 (.cst (.int 1))) (.cons (.op (.bin .mul) (.cons (.cst (.int 7919)) (.cons (.idx 0 (.cst (.int 2))) .nil))) .nil))) (.cons (.cst (.int 48271)) .nil))) (.cons (.cst (.int 2147483647)) .nil)))) (.one (.set 2 (.op (.bin .mod) (.cons (.op (.bin .mul) (.cons (.var 2) (.cons (.var 2) .nil))) (.cons (.cst (.int 2147483629)) .nil)))) (.one (.set 2 (.op (.bin .mod) (.cons (.op (.bin .mul) (.cons (.op (.bin .add) (.cons (.var 2) (.cons (.op (.bin .mul) (.cons (.cst (.int 40692)) (.cons (.idx 0 (.cst (.int 2))) .nil))) .nil))) (.cons (.cst (.int 69621)) .nil))) (.cons (.cst (.int 2147483587)) .nil)))) (.one (.ret (.op (.bin .mod) (.cons (.op (.bin .fdiv) (.cons (.var 2) (.cons (.cst (.int 8)) .nil))) (.cons (.var 1) .nil)))) .nil))))))⟩
def b2_0 : S := (.one (.set 2 (.op (.bin .add) (.cons (.op .ix (.cons (.cst (.str "01")) (.cons (.op (.bin .mod) (.cons (.var 0) (.cons (.cst (.int 2)) .nil))) .nil))) (.cons (.var 2) .nil)))) (.one (.set 0 (.op (.bin .fdiv) (.cons (.var 0) (.cons (.cst (.int 2)) .nil)))) .nil))
def d2 : Df := ⟨"_law_word", 2, 0, ["number", "n", "word", "k"], (.one (.set 2 (.cst (.str ""))) (.one (.fr (.nm 3) (.rng1 (.var 1)) b2_0) (.one (.ret (.var 2)) .nil)))⟩
def d3 : Df := ⟨"_law_branch", 6, 1, ["store", "kind", "pool", "place", "letter", "sizes", "behind", "word", "k", "n", "many"], (.one (.unp (.tp (.cons (.nm 8) (.cons (.nm 9) (.cons (.nm 10) .nil)))) (.var 5)) (.one (.set 6 (.cio 1 [0] (.cons (.var 10) .nil))) (.frz [6] (.one (.set 7 (.op .ix (.cons (.var 2) (.cons (.cio 1 [0] (.cons (.op (.b1 .len) (.cons (.var 2) .nil)) .nil)) .nil)))) (.one (.ifs (.op (.cmp .eq) (.cons (.var 1) (.cons (.cst (.int 2)) .nil))) (.one (.set 6 (.op (.bin .mod) (.cons (.op (.bin .add) (.cons (.op (.bin .mul) (.cons (.cst (.int 2)) (.cons (.var 3) .nil))) (.cons (.var 4) .nil))) (.cons (.var 10) .nil)))) .nil) .nil) (.one (.ifs (.and (.op (.cmp .eq) (.cons (.var 1) (.cons (.cst (.int 3)) .nil))) (.op (.cmp .le) (.cons (.var 8) (.cons (.var 9) .nil)))) (.one (.set 7 (.call 2 (.cons (.op (.bin .mod) (.cons (.op (.bin .add) (.cons (.op (.mk .count "1") (.cons (.op .ix (.cons (.var 2) (.cons (.cst (.int 0)) .nil))) .nil)) (.cons (.op (.bin .mul) (.cons (.var 4) (.cons (.op (.bin .add) (.cons (.op (.bin .mul) (.cons (.cst (.int 2)) (.cons (.op (.b1 .len) (.cons (.var 2) .nil)) .nil))) (.cons (.cst (.int 1)) .nil))) .nil))) .nil))) (.cons (.op .ix (.cons (.lst 0 (.cons (.cst (.int 2)) (.cons (.cst (.int 4)) (.cons (.cst (.int 8)) (.cons (.cst (.int 16)) (.cons (.cst (.int 32)) (.cons (.cst (.int 64)) .nil))))))) (.cons (.op (.bin .sub) (.cons (.var 9) (.cons (.cst (.int 1)) .nil))) .nil))) .nil))) (.cons (.var 9) .nil)))) (.frz [7] .nil)) .nil) (.one (.ifs (.op (.cmp .eq) (.cons (.var 1) (.cons (.cst (.int 5)) .nil))) (.one (.set 7 (.call 2 (.cons (.cio 1 [0] (.cons (.cst (.int 64)) .nil)) (.cons (.var 9) .nil)))) (.frz [7] .nil)) .nil) (.one (.ifs (.and (.op (.cmp .eq) (.cons (.var 1) (.cons (.cst (.int 4)) .nil))) (.op (.cmp .le) (.cons (.var 8) (.cons (.var 9) .nil)))) (.one (.set 7 (.call 2 (.cons (.op (.bin .mod) (.cons (.op (.bin .add) (.cons (.op (.bin .mul) (.cons (.cst (.int 3)) (.cons (.var 3) .nil))) (.cons (.op (.bin .mul) (.cons (.var 4) (.cons (.op (.bin .add) (.cons (.op (.bin .mul) (.cons (.cst (.int 2)) (.cons (.op (.bin .mod) (.cons (.var 3) (.cons (.cst (.int 3)) .nil))) .nil))) (.cons (.cst (.int 1)) .nil))) .nil))) .nil))) (.cons (.op .ix (.cons (.lst 0 (.cons (.cst (.int 2)) (.cons (.cst (.int 4)) (.cons (.cst (.int 8)) (.cons (.cst (.int 16)) (.cons (.cst (.int 32)) (.cons (.cst (.int 64)) .nil))))))) (.cons (.op (.bin .sub) (.cons (.var 9) (.cons (.cst (.int 1)) .nil))) .nil))) .nil))) (.cons (.var 9) .nil)))) (.frz [7] .nil)) .nil) (.one (.ret (.tup 0 (.cons (.var 7) (.cons (.var 6) .nil)))) .nil)))))))))⟩
def b4_0 : S := (.one (.ex (.mut 10 .append (.cons (.cio 3 [0] (.cons (.var 5) (.cons (.var 7) (.cons (.var 9) (.cons (.var 11) (.cons (.tup 0 (.cons (.var 2) (.cons (.var 3) (.cons (.var 4) .nil)))) .nil)))))) .nil))) .nil)
def b4_1 : S := (.one (.set 10 (.lst 0 .nil)) (.one (.fr (.nm 11) (.rng1 (.op .ix (.cons (.lst 0 (.cons (.cst (.int 2)) (.cons (.cst (.int 4)) (.cons (.cst (.int 8)) .nil)))) (.cons (.op (.bin .sub) (.cons (.var 2) (.cons (.cst (.int 1)) .nil))) .nil)))) b4_0) (.one (.ex (.mut 8 .append (.cons (.frz 10) .nil))) .nil)))
def d4 : Df := ⟨"_law_code", 2, 1, ["store", "most", "k", "n", "many", "kind", "top", "pool", "states", "place", "state", "letter", "j"], (.one (.set 2 (.op .ix (.cons (.lst 0 (.cons (.cst (.int 1)) (.cons (.cst (.int 1)) (.cons (.cst (.int 1)) (.cons (.cst (.int 2)) (.cons (.cst (.int 2)) (.cons (.cst (.int 3)) .nil))))))) (.cons (.cio 1 [0] (.cons (.cst (.int 6)) .nil)) .nil)))) (.one (.set 3 (.op (.bin .add) (.cons (.cst (.int 1)) (.cons (.cio 1 [0] (.cons (.cst (.int 6)) .nil)) .nil)))) (.frz [3] (.one (.set 4 (.op (.bin .add) (.cons (.cst (.int 1)) (.cons (.cio 1 [0] (.cons (.var 1) .nil)) .nil)))) (.frz [4] (.one (.set 5 (.cio 1 [0] (.cons (.cst (.int 6)) .nil))) (.frz [5] (.one (.set 6 (.op .ix (.cons (.lst 0 (.cons (.cst (.int 2)) (.cons (.cst (.int 4)) (.cons (.cst (.int 8)) (.cons (.cst (.int 16)) (.cons (.cst (.int 32)) (.cons (.cst (.int 64)) .nil))))))) (.cons (.op (.bin .sub) (.cons (.var 3) (.cons (.cst (.int 1)) .nil))) .nil)))) (.one (.set 7 (.comp 0 [12] (.nm 12) (.rng1 (.op (.bin .add) (.cons (.cst (.int 1)) (.cons (.cio 1 [0] (.cons (.cst (.int 5)) .nil)) .nil)))) .no (.call 2 (.cons (.cio 1 [0] (.cons (.var 6) .nil)) (.cons (.var 3) .nil))))) (.frz [7] (.one (.set 8 (.lst 0 .nil)) (.one (.fr (.nm 9) (.rng1 (.var 4)) b4_1) (.one (.ret (.tup 0 (.cons (.var 2) (.cons (.var 3) (.cons (.frz 8) .nil))))) .nil)))))))))))))⟩
def b5_0 : S := (.one (.ex (.mut 1 .append (.cons (.op (.ck .join ",") (.cons (.comp 0 [3, 4] (.tp (.cons (.nm 3) (.cons (.nm 4) .nil))) (.ex (.var 2)) .no (.op (.bin .add) (.cons (.op (.bin .add) (.cons (.var 3) (.cons (.cst (.str ">")) .nil))) (.cons (.op (.b1 .str) (.cons (.var 4) .nil)) .nil)))) .nil)) .nil))) .nil)
def d5 : Df := ⟨"show", 1, 0, ["code", "words", "state", "word", "behind"], (.one (.set 1 (.lst 0 (.cons (.op (.b1 .str) (.cons (.op .ix (.cons (.var 0) (.cons (.cst (.int 0)) .nil))) .nil)) (.cons (.op (.b1 .str) (.cons (.op .ix (.cons (.var 0) (.cons (.cst (.int 1)) .nil))) .nil)) .nil)))) (.one (.fr (.nm 2) (.ex (.op .ix (.cons (.var 0) (.cons (.cst (.int 2)) .nil)))) b5_0) (.one (.ret (.op (.ck .join " ") (.cons (.frz 1) .nil))) .nil)))⟩
def d6 : Df := ⟨"figure_of", 1, 0, ["word"], (.one (.ifs (.and (.op (.cmp .eq) (.cons (.op (.b1 .len) (.cons (.var 0) .nil)) (.cons (.cst (.int 1)) .nil))) (.op (.cmp .inn) (.cons (.var 0) (.cons (.glb "FIGURES" (.str "0123456789")) .nil)))) (.one (.ret (.op (.b1 .int) (.cons (.var 0) .nil))) .nil) .nil) (.one (.ret (.cst .none)) .nil))⟩
def d7 : Df := ⟨"is_whole", 3, 0, ["thing", "least", "most"], (.one (.ret (.and (.op (.isin "int") (.cons (.var 0) .nil)) (.and (.not (.op (.isin "bool") (.cons (.var 0) .nil))) (.chn .le .le (.var 1) (.var 0) (.var 2))))) .nil)⟩
def d8 : Df := ⟨"is_pair", 3, 0, ["thing", "n", "many", "word", "behind", "sign"], (.one (.ifs (.or (.not (.op (.isin "tuple") (.cons (.var 0) .nil))) (.or (.op (.cmp .ne) (.cons (.op (.b1 .len) (.cons (.var 0) .nil)) (.cons (.cst (.int 2)) .nil))) (.not (.op (.isin "str") (.cons (.op .ix (.cons (.var 0) (.cons (.cst (.int 0)) .nil))) .nil))))) (.one (.ret (.cst (.bool false))) .nil) .nil) (.one (.unp (.tp (.cons (.nm 3) (.cons (.nm 4) .nil))) (.var 0)) (.one (.ifs (.or (.op (.cmp .ne) (.cons (.op (.b1 .len) (.cons (.var 3) .nil)) (.cons (.var 1) .nil))) (.op (.cmp .ne) (.cons (.comp 0 [5] (.nm 5) (.ex (.var 3)) (.so (.op (.cmp .nin) (.cons (.var 5) (.cons (.cst (.str "01")) .nil)))) (.var 5)) (.cons (.lst 0 .nil) .nil)))) (.one (.ret (.cst (.bool false))) .nil) .nil) (.one (.ret (.call 7 (.cons (.var 4) (.cons (.cst (.int 0)) (.cons (.op (.bin .sub) (.cons (.var 2) (.cons (.cst (.int 1)) .nil))) .nil))))) .nil))))⟩
def d9 : Df := ⟨"is_state", 4, 0, ["thing", "k", "n", "many", "pair"], (.one (.ifs (.or (.not (.op (.isin "list") (.cons (.var 0) .nil))) (.op (.cmp .ne) (.cons (.op (.b1 .len) (.cons (.var 0) .nil)) (.cons (.op (.bin .shl) (.cons (.cst (.int 2)) (.cons (.op (.bin .sub) (.cons (.var 1) (.cons (.cst (.int 1)) .nil))) .nil))) .nil)))) (.one (.ret (.cst (.bool false))) .nil) .nil) (.one (.ret (.op (.cmp .eq) (.cons (.comp 0 [4] (.nm 4) (.ex (.var 0)) (.so (.not (.call 8 (.cons (.var 4) (.cons (.var 2) (.cons (.var 3) .nil)))))) (.var 4)) (.cons (.lst 0 .nil) .nil)))) .nil))⟩
def d10 : Df := ⟨"is_code", 1, 0, ["thing", "k", "n", "states", "state"], (.one (.ifs (.or (.not (.op (.isin "tuple") (.cons (.var 0) .nil))) (.op (.cmp .ne) (.cons (.op (.b1 .len) (.cons (.var 0) .nil)) (.cons (.cst (.int 3)) .nil)))) (.one (.ret (.cst (.bool false))) .nil) .nil) (.one (.unp (.tp (.cons (.nm 1) (.cons (.nm 2) (.cons (.nm 3) .nil)))) (.var 0)) (.one (.ifs (.or (.not (.call 7 (.cons (.var 1) (.cons (.cst (.int 1)) (.cons (.glb "MOST_BITS" (.int 3)) .nil))))) (.not (.call 7 (.cons (.var 2) (.cons (.cst (.int 1)) (.cons (.glb "MOST_SIGNS" (.int 6)) .nil)))))) (.one (.ret (.cst (.bool false))) .nil) .nil) (.one (.ifs (.or (.not (.op (.isin "list") (.cons (.var 3) .nil))) (.not (.chn .le .le (.cst (.int 1)) (.op (.b1 .len) (.cons (.var 3) .nil)) (.glb "MOST_STATES" (.int 8))))) (.one (.ret (.cst (.bool false))) .nil) .nil) (.one (.ret (.op (.cmp .eq) (.cons (.comp 0 [4] (.nm 4) (.ex (.var 3)) (.so (.not (.call 9 (.cons (.var 4) (.cons (.var 1) (.cons (.var 2) (.cons (.op (.b1 .len) (.cons (.var 3) .nil)) .nil))))))) (.var 4)) (.cons (.lst 0 .nil) .nil)))) .nil)))))⟩
def d11 : Df := ⟨"branch_of", 1, 0, ["text", "word", "arrow", "behind"], (.one (.unp (.tp (.cons (.nm 1) (.cons (.nm 2) (.cons (.nm 3) .nil)))) (.op (.mk .partition ">") (.cons (.var 0) .nil))) (.one (.ret (.tup 0 (.cons (.var 1) (.cons (.call 6 (.cons (.var 3) .nil)) .nil)))) .nil))⟩
def d12 : Df := ⟨"read_code", 1, 0, ["text", "words", "states", "code", "word", "branch"], (.one (.ifs (.not (.op (.isin "str") (.cons (.var 0) .nil))) (.one .rse .nil) .nil) (.one (.set 1 (.op (.mk .split " ") (.cons (.var 0) .nil))) (.frz [1] (.one (.ifs (.op (.cmp .lt) (.cons (.op (.b1 .len) (.cons (.var 1) .nil)) (.cons (.cst (.int 3)) .nil))) (.one .rse .nil) .nil) (.one (.set 2 (.comp 1 [4] (.nm 4) (.ex (.slc (.var 1) (.so (.cst (.int 2))) .no)) .no (.comp 0 [5] (.nm 5) (.ex (.op (.mk .split ",") (.cons (.var 4) .nil))) .no (.call 11 (.cons (.var 5) .nil))))) (.one (.set 3 (.tup 2 (.cons (.call 6 (.cons (.op .ix (.cons (.var 1) (.cons (.cst (.int 0)) .nil))) .nil)) (.cons (.call 6 (.cons (.op .ix (.cons (.var 1) (.cons (.cst (.int 1)) .nil))) .nil)) (.cons (.mv 2) .nil))))) (.one (.ifs (.not (.lend [3] (.call 10 (.cons (.var 3) .nil)))) (.one .rse .nil) .nil) (.one (.ret (.mv 3)) .nil))))))))⟩
def d13 : Df := ⟨"_law_rows", 3, 1, ["store", "code", "most", "size", "place", "j"], (.one (.set 3 (.op .ix (.cons (.lst 0 (.cons (.cst (.int 2)) (.cons (.cst (.int 4)) (.cons (.cst (.int 8)) .nil)))) (.cons (.op (.bin .sub) (.cons (.op .ix (.cons (.var 1) (.cons (.cst (.int 0)) .nil))) (.cons (.cst (.int 1)) .nil))) .nil)))) (.one (.set 4 (.cio 1 [0] (.cons (.op (.b1 .len) (.cons (.op .ix (.cons (.var 1) (.cons (.cst (.int 2)) .nil))) .nil)) .nil))) (.frz [4] (.one (.ret (.tup 0 (.cons (.var 4) (.cons (.comp 0 [5] (.nm 5) (.rng1 (.cio 1 [0] (.cons (.op (.bin .add) (.cons (.var 2) (.cons (.cst (.int 1)) .nil))) .nil))) .no (.cio 1 [0] (.cons (.var 3) .nil))) .nil)))) .nil))))⟩
def d14 : Df := ⟨"_law_cell", 2, 0, ["script", "k"], (.one (.ifs (.op (.cmp .lt) (.cons (.var 1) (.cons (.op (.b1 .len) (.cons (.var 0) .nil)) .nil))) (.one (.ret (.op .ix (.cons (.var 0) (.cons (.var 1) .nil)))) .nil) .nil) (.one (.ret (.op (.bin .add) (.cons (.op (.bin .add) (.cons (.op (.bin .mul) (.cons (.op (.bin .mul) (.cons (.cst (.int 7)) (.cons (.var 1) .nil))) (.cons (.var 1) .nil))) (.cons (.op (.bin .mul) (.cons (.cst (.int 3)) (.cons (.var 1) .nil))) .nil))) (.cons (.cst (.int 11)) .nil)))) .nil))⟩
def d15 : Df := ⟨"_law_other", 2, 1, ["store", "code", "states", "place", "letter", "word", "behind", "state"], (.one (.set 2 (.comp 1 [7] (.nm 7) (.ex (.op .ix (.cons (.var 1) (.cons (.cst (.int 2)) .nil)))) .no (.op (.b1 .list) (.cons (.var 7) .nil)))) (.one (.set 3 (.cio 1 [0] (.cons (.lend [2] (.op (.b1 .len) (.cons (.var 2) .nil))) .nil))) (.frz [3] (.one (.set 4 (.cio 1 [0] (.cons (.lend [2] (.op (.b1 .len) (.cons (.op .ix (.cons (.var 2) (.cons (.var 3) .nil))) .nil))) .nil))) (.frz [4] (.one (.unp (.tp (.cons (.nm 5) (.cons (.nm 6) .nil))) (.pth 2 [.v 4, .v 3])) (.one (.ifs (.op (.cmp .eq) (.cons (.cio 1 [0] (.cons (.cst (.int 2)) .nil)) (.cons (.cst (.int 0)) .nil))) (.one (.set 5 (.call 2 (.cons (.cio 1 [0] (.cons (.cst (.int 64)) .nil)) (.cons (.op .ix (.cons (.var 1) (.cons (.cst (.int 1)) .nil))) .nil)))) (.frz [5] .nil)) (.one (.set 6 (.cio 1 [0] (.cons (.lend [2] (.op (.b1 .len) (.cons (.var 2) .nil))) .nil))) (.frz [6] .nil))) (.one (.setp 2 [.v 3] (.v 4) (.tup 0 (.cons (.var 5) (.cons (.var 6) .nil)))) (.one (.ret (.tup 0 (.cons (.op .ix (.cons (.var 1) (.cons (.cst (.int 0)) .nil))) (.cons (.op .ix (.cons (.var 1) (.cons (.cst (.int 1)) .nil))) (.cons (.frz 2) .nil))))) .nil)))))))))⟩
def d16 : Df := ⟨"need_letters", 2, 0, ["k", "text", "one"], (.one (.ifs (.or (.not (.op (.isin "list") (.cons (.var 1) .nil))) (.op (.cmp .ne) (.cons (.comp 0 [2] (.nm 2) (.ex (.var 1)) (.so (.not (.call 7 (.cons (.var 2) (.cons (.cst (.int 0)) (.cons (.op (.bin .sub) (.cons (.op (.bin .shl) (.cons (.cst (.int 2)) (.cons (.op (.bin .sub) (.cons (.var 0) (.cons (.cst (.int 1)) .nil))) .nil))) (.cons (.cst (.int 1)) .nil))) .nil)))))) (.var 2)) (.cons (.lst 0 .nil) .nil)))) (.one .rse .nil) .nil) .nil)⟩
def b17_0 : S := (.one (.unp (.tp (.cons (.nm 8) (.cons (.nm 1) .nil))) (.op .ix (.cons (.op .ix (.cons (.var 7) (.cons (.var 1) .nil))) (.cons (.var 4) .nil)))) (.one (.ex (.mut 3 .append (.cons (.var 8) .nil))) .nil))
def d17 : Df := ⟨"sent", 3, 0, ["code", "state", "text", "words", "letter", "k", "n", "states", "word"], (.one (.unp (.tp (.cons (.nm 5) (.cons (.nm 6) (.cons (.nm 7) .nil)))) (.var 0)) (.one (.ex (.call 16 (.cons (.var 5) (.cons (.var 2) .nil)))) (.one (.set 3 (.lst 0 .nil)) (.one (.fr (.nm 4) (.ex (.var 2)) b17_0) (.one (.ret (.tup 0 (.cons (.op (.ck .join "") (.cons (.frz 3) .nil)) (.cons (.var 1) .nil)))) .nil)))))⟩
def b18_0 : S := (.one (.unp (.tp (.cons (.nm 5) (.cons (.nm 1) .nil))) (.op .ix (.cons (.op .ix (.cons (.op .ix (.cons (.var 0) (.cons (.cst (.int 2)) .nil))) (.cons (.var 1) .nil))) (.cons (.var 4) .nil)))) (.one (.set 3 (.op (.bin .add) (.cons (.var 3) (.cons (.var 5) .nil)))) .nil))
def d18 : Df := ⟨"_law_sent", 3, 0, ["code", "place", "text", "wire", "letter", "word"], (.one (.set 3 (.cst (.str ""))) (.one (.fr (.nm 4) (.ex (.var 2)) b18_0) (.one (.ret (.tup 0 (.cons (.var 3) (.cons (.var 1) .nil)))) .nil)))⟩
def b20_0 : S := (.one (.ifs (.not (.call 19 (.cons (.var 2) (.cons (.var 3) .nil)))) (.one (.ret (.cst (.bool false))) .nil) .nil) .nil)
def d20 : Df := ⟨"_law_same", 2, 0, ["found", "due", "one", "other"], (.one (.ifs (.op (.isin "str") (.cons (.var 1) .nil)) (.one (.ret (.and (.op (.isin "str") (.cons (.var 0) .nil)) (.op (.cmp .eq) (.cons (.var 0) (.cons (.var 1) .nil))))) .nil) .nil) (.one (.ifs (.op (.isin "int") (.cons (.var 1) .nil)) (.one (.ret (.and (.op (.isin "int") (.cons (.var 0) .nil)) (.and (.not (.op (.isin "bool") (.cons (.var 0) .nil))) (.op (.cmp .eq) (.cons (.var 0) (.cons (.var 1) .nil)))))) .nil) .nil) (.one (.ifs (.or (.op (.cmp .ne) (.cons (.op (.isin "list") (.cons (.var 1) .nil)) (.cons (.op (.isin "list") (.cons (.var 0) .nil)) .nil))) (.op (.cmp .ne) (.cons (.op (.isin "tuple") (.cons (.var 1) .nil)) (.cons (.op (.isin "tuple") (.cons (.var 0) .nil)) .nil)))) (.one (.ret (.cst (.bool false))) .nil) .nil) (.one (.ifs (.op (.cmp .ne) (.cons (.op (.b1 .len) (.cons (.var 0) .nil)) (.cons (.op (.b1 .len) (.cons (.var 1) .nil)) .nil))) (.one (.ret (.cst (.bool false))) .nil) .nil) (.one (.fr (.tp (.cons (.nm 2) (.cons (.nm 3) .nil))) (.zip (.var 0) (.var 1)) b20_0) (.one (.ret (.cst (.bool true))) .nil))))))⟩
def b21_0 : S := (.one (.ifs (.not (.call 20 (.cons (.var 2) (.cons (.var 3) .nil)))) (.one (.ret (.cst (.bool false))) .nil) .nil) .nil)
def d21 : Df := ⟨"_law_same", 2, 0, ["found", "due", "one", "other"], (.one (.ifs (.op (.isin "str") (.cons (.var 1) .nil)) (.one (.ret (.and (.op (.isin "str") (.cons (.var 0) .nil)) (.op (.cmp .eq) (.cons (.var 0) (.cons (.var 1) .nil))))) .nil) .nil) (.one (.ifs (.op (.isin "int") (.cons (.var 1) .nil)) (.one (.ret (.and (.op (.isin "int") (.cons (.var 0) .nil)) (.and (.not (.op (.isin "bool") (.cons (.var 0) .nil))) (.op (.cmp .eq) (.cons (.var 0) (.cons (.var 1) .nil)))))) .nil) .nil) (.one (.ifs (.or (.op (.cmp .ne) (.cons (.op (.isin "list") (.cons (.var 1) .nil)) (.cons (.op (.isin "list") (.cons (.var 0) .nil)) .nil))) (.op (.cmp .ne) (.cons (.op (.isin "tuple") (.cons (.var 1) .nil)) (.cons (.op (.isin "tuple") (.cons (.var 0) .nil)) .nil)))) (.one (.ret (.cst (.bool false))) .nil) .nil) (.one (.ifs (.op (.cmp .ne) (.cons (.op (.b1 .len) (.cons (.var 0) .nil)) (.cons (.op (.b1 .len) (.cons (.var 1) .nil)) .nil))) (.one (.ret (.cst (.bool false))) .nil) .nil) (.one (.fr (.tp (.cons (.nm 2) (.cons (.nm 3) .nil))) (.zip (.var 0) (.var 1)) b21_0) (.one (.ret (.cst (.bool true))) .nil))))))⟩
def b22_0 : S := (.one (.ifs (.not (.call 21 (.cons (.var 2) (.cons (.var 3) .nil)))) (.one (.ret (.cst (.bool false))) .nil) .nil) .nil)
def d22 : Df := ⟨"_law_same", 2, 0, ["found", "due", "one", "other"], (.one (.ifs (.op (.isin "str") (.cons (.var 1) .nil)) (.one (.ret (.and (.op (.isin "str") (.cons (.var 0) .nil)) (.op (.cmp .eq) (.cons (.var 0) (.cons (.var 1) .nil))))) .nil) .nil) (.one (.ifs (.op (.isin "int") (.cons (.var 1) .nil)) (.one (.ret (.and (.op (.isin "int") (.cons (.var 0) .nil)) (.and (.not (.op (.isin "bool") (.cons (.var 0) .nil))) (.op (.cmp .eq) (.cons (.var 0) (.cons (.var 1) .nil)))))) .nil) .nil) (.one (.ifs (.or (.op (.cmp .ne) (.cons (.op (.isin "list") (.cons (.var 1) .nil)) (.cons (.op (.isin "list") (.cons (.var 0) .nil)) .nil))) (.op (.cmp .ne) (.cons (.op (.isin "tuple") (.cons (.var 1) .nil)) (.cons (.op (.isin "tuple") (.cons (.var 0) .nil)) .nil)))) (.one (.ret (.cst (.bool false))) .nil) .nil) (.one (.ifs (.op (.cmp .ne) (.cons (.op (.b1 .len) (.cons (.var 0) .nil)) (.cons (.op (.b1 .len) (.cons (.var 1) .nil)) .nil))) (.one (.ret (.cst (.bool false))) .nil) .nil) (.one (.fr (.tp (.cons (.nm 2) (.cons (.nm 3) .nil))) (.zip (.var 0) (.var 1)) b22_0) (.one (.ret (.cst (.bool true))) .nil))))))⟩
def b23_0 : S := (.one (.ifs (.not (.call 22 (.cons (.var 2) (.cons (.var 3) .nil)))) (.one (.ret (.cst (.bool false))) .nil) .nil) .nil)
def d23 : Df := ⟨"_law_same", 2, 0, ["found", "due", "one", "other"], (.one (.ifs (.op (.isin "str") (.cons (.var 1) .nil)) (.one (.ret (.and (.op (.isin "str") (.cons (.var 0) .nil)) (.op (.cmp .eq) (.cons (.var 0) (.cons (.var 1) .nil))))) .nil) .nil) (.one (.ifs (.op (.isin "int") (.cons (.var 1) .nil)) (.one (.ret (.and (.op (.isin "int") (.cons (.var 0) .nil)) (.and (.not (.op (.isin "bool") (.cons (.var 0) .nil))) (.op (.cmp .eq) (.cons (.var 0) (.cons (.var 1) .nil)))))) .nil) .nil) (.one (.ifs (.or (.op (.cmp .ne) (.cons (.op (.isin "list") (.cons (.var 1) .nil)) (.cons (.op (.isin "list") (.cons (.var 0) .nil)) .nil))) (.op (.cmp .ne) (.cons (.op (.isin "tuple") (.cons (.var 1) .nil)) (.cons (.op (.isin "tuple") (.cons (.var 0) .nil)) .nil)))) (.one (.ret (.cst (.bool false))) .nil) .nil) (.one (.ifs (.op (.cmp .ne) (.cons (.op (.b1 .len) (.cons (.var 0) .nil)) (.cons (.op (.b1 .len) (.cons (.var 1) .nil)) .nil))) (.one (.ret (.cst (.bool false))) .nil) .nil) (.one (.fr (.tp (.cons (.nm 2) (.cons (.nm 3) .nil))) (.zip (.var 0) (.var 1)) b23_0) (.one (.ret (.cst (.bool true))) .nil))))))⟩
def b24_0 : S := (.one (.ifs (.not (.call 23 (.cons (.var 2) (.cons (.var 3) .nil)))) (.one (.ret (.cst (.bool false))) .nil) .nil) .nil)
def d24 : Df := ⟨"_law_same", 2, 0, ["found", "due", "one", "other"], (.one (.ifs (.op (.isin "str") (.cons (.var 1) .nil)) (.one (.ret (.and (.op (.isin "str") (.cons (.var 0) .nil)) (.op (.cmp .eq) (.cons (.var 0) (.cons (.var 1) .nil))))) .nil) .nil) (.one (.ifs (.op (.isin "int") (.cons (.var 1) .nil)) (.one (.ret (.and (.op (.isin "int") (.cons (.var 0) .nil)) (.and (.not (.op (.isin "bool") (.cons (.var 0) .nil))) (.op (.cmp .eq) (.cons (.var 0) (.cons (.var 1) .nil)))))) .nil) .nil) (.one (.ifs (.or (.op (.cmp .ne) (.cons (.op (.isin "list") (.cons (.var 1) .nil)) (.cons (.op (.isin "list") (.cons (.var 0) .nil)) .nil))) (.op (.cmp .ne) (.cons (.op (.isin "tuple") (.cons (.var 1) .nil)) (.cons (.op (.isin "tuple") (.cons (.var 0) .nil)) .nil)))) (.one (.ret (.cst (.bool false))) .nil) .nil) (.one (.ifs (.op (.cmp .ne) (.cons (.op (.b1 .len) (.cons (.var 0) .nil)) (.cons (.op (.b1 .len) (.cons (.var 1) .nil)) .nil))) (.one (.ret (.cst (.bool false))) .nil) .nil) (.one (.fr (.tp (.cons (.nm 2) (.cons (.nm 3) .nil))) (.zip (.var 0) (.var 1)) b24_0) (.one (.ret (.cst (.bool true))) .nil))))))⟩
def b25_0 : S := (.ifs (.op (.cmp .ne) (.cons (.call 17 (.cons (.var 6) (.cons (.var 7) (.cons (.var 8) .nil)))) (.cons (.call 18 (.cons (.var 3) (.cons (.var 7) (.cons (.var 8) .nil)))) .nil))) (.one (.ret (.cst (.bool false))) .nil) .nil)
def b25_1 : S := (.ifs (.op (.cmp .ne) (.cons (.op (.cmp .eq) (.cons (.call 5 (.cons (.var 4) .nil)) (.cons (.var 5) .nil))) (.cons (.op (.cmp .eq) (.cons (.var 4) (.cons (.var 3) .nil))) .nil))) (.one (.ret (.cst (.bool false))) .nil) .nil)
def b25_2 : S := (.ifs (.or (.not (.call 24 (.cons (.var 6) (.cons (.var 3) .nil)))) (.or (.op (.isn true (.bool true)) (.cons (.call 10 (.cons (.var 6) .nil)) .nil)) (.op (.cmp .ne) (.cons (.call 5 (.cons (.var 6) .nil)) (.cons (.var 5) .nil))))) (.one (.ret (.cst (.bool false))) .nil) .nil)
def b25_3 : S := (.ifs (.op (.cmp .eq) (.cons (.cio 1 [2] (.cons (.cst (.int 2)) .nil)) (.cons (.cst (.int 0)) .nil))) (.one (.set 4 (.cio 15 [2] (.cons (.var 3) .nil))) (.frz [4] .nil)) .nil)
def b25_4 : S := (.one (.set 2 (.call 0 (.cons (.call 14 (.cons (.var 0) (.cons (.var 1) .nil))) .nil))) (.one (.set 3 (.cio 4 [2] (.cons (.cst (.int 8)) .nil))) (.frz [3] (.one (.set 4 (.cio 4 [2] (.cons (.cst (.int 8)) .nil))) (.frz [4] (.one b25_3 (.one (.set 5 (.call 5 (.cons (.var 3) .nil))) (.frz [5] (.one (.set 6 (.call 12 (.cons (.var 5) .nil))) (.frz [6] (.one b25_2 (.one b25_1 (.one (.unp (.tp (.cons (.nm 7) (.cons (.nm 8) .nil))) (.cio 13 [2] (.cons (.var 3) (.cons (.cst (.int 10)) .nil)))) (.frz [7, 8] (.one b25_0 .nil)))))))))))))))
def d25 : Df := ⟨"law", 1, 0, ["script", "at", "store", "code", "other", "text", "again", "place", "row"], (.one (.fr (.nm 1) (.rng1 (.op (.b2 .min) (.cons (.op (.b2 .max) (.cons (.op (.b1 .len) (.cons (.var 0) .nil)) (.cons (.cst (.int 3)) .nil))) (.cons (.cst (.int 12)) .nil)))) b25_4) (.one (.ret (.cst (.bool true))) .nil))⟩
def f0 : Fn := runF (look []) d0
def f1 : Fn := runF (look [f0]) d1
def f2 : Fn := runF (look [f0, f1]) d2
def f3 : Fn := runF (look [f0, f1, f2]) d3
def f4 : Fn := runF (look [f0, f1, f2, f3]) d4
def f5 : Fn := runF (look [f0, f1, f2, f3, f4]) d5
def f6 : Fn := runF (look [f0, f1, f2, f3, f4, f5]) d6
def f7 : Fn := runF (look [f0, f1, f2, f3, f4, f5, f6]) d7
def f8 : Fn := runF (look [f0, f1, f2, f3, f4, f5, f6, f7]) d8
def f9 : Fn := runF (look [f0, f1, f2, f3, f4, f5, f6, f7, f8]) d9
def f10 : Fn := runF (look [f0, f1, f2, f3, f4, f5, f6, f7, f8, f9]) d10
def f11 : Fn := runF (look [f0, f1, f2, f3, f4, f5, f6, f7, f8, f9, f10]) d11
def f12 : Fn := runF (look [f0, f1, f2, f3, f4, f5, f6, f7, f8, f9, f10, f11]) d12
def f13 : Fn := runF (look [f0, f1, f2, f3, f4, f5, f6, f7, f8, f9, f10, f11, f12]) d13
def f14 : Fn := runF (look [f0, f1, f2, f3, f4, f5, f6, f7, f8, f9, f10, f11, f12, f13]) d14
def f15 : Fn := runF (look [f0, f1, f2, f3, f4, f5, f6, f7, f8, f9, f10, f11, f12, f13, f14]) d15
def f16 : Fn := runF (look [f0, f1, f2, f3, f4, f5, f6, f7, f8, f9, f10, f11, f12, f13, f14, f15]) d16
def f17 : Fn := runF (look [f0, f1, f2, f3, f4, f5, f6, f7, f8, f9, f10, f11, f12, f13, f14, f15, f16]) d17
def f18 : Fn := runF (look [f0, f1, f2, f3, f4, f5, f6, f7, f8, f9, f10, f11, f12, f13, f14, f15, f16, f17]) d18
def f19 : Fn := default
def f20 : Fn := runF (look [f0, f1, f2, f3, f4, f5, f6, f7, f8, f9, f10, f11, f12, f13, f14, f15, f16, f17, f18, f19]) d20
def f21 : Fn := runF (look [f0, f1, f2, f3, f4, f5, f6, f7, f8, f9, f10, f11, f12, f13, f14, f15, f16, f17, f18, f19, f20]) d21
def f22 : Fn := runF (look [f0, f1, f2, f3, f4, f5, f6, f7, f8, f9, f10, f11, f12, f13, f14, f15, f16, f17, f18, f19, f20, f21]) d22
def f23 : Fn := runF (look [f0, f1, f2, f3, f4, f5, f6, f7, f8, f9, f10, f11, f12, f13, f14, f15, f16, f17, f18, f19, f20, f21, f22]) d23
def f24 : Fn := runF (look [f0, f1, f2, f3, f4, f5, f6, f7, f8, f9, f10, f11, f12, f13, f14, f15, f16, f17, f18, f19, f20, f21, f22, f23]) d24
def f25 : Fn := runF (look [f0, f1, f2, f3, f4, f5, f6, f7, f8, f9, f10, f11, f12, f13, f14, f15, f16, f17, f18, f19, f20, f21, f22, f23, f24]) d25
theorem chk0 : chkS (cx 22 0 d0.N []) d0.body (defBody (top 22)) = true := by kernel_rfl
theorem scp0 : C8.scC d0.N ["cell"] (defScope (top 22)) = true := by kernel_rfl
theorem bnd0 (kV doc pm : Value) (an : Option Addr) (cdv ct : Value) (us : List Value) (h : us.length = (["cell"] : List Str).length) : bindArgs (PySem.W.fnOf "_law_store" "_law_store" (defArgs (top 22)) (defBody (top 22)) (defScope (top 22)) .none kV doc pm an cdv ct) ⟨us, []⟩ = pure ((["cell"] : List Str).zip us) := by
  match us, h with
  | [u0], _ => rfl
theorem chk1 : chkS (cx 23 1 d1.N [("_law_store", 1)]) d1.body (defBody (top 23)) = true := by kernel_rfl
theorem scp1 : C8.scC d1.N ["store", "many"] (defScope (top 23)) = true := by kernel_rfl
theorem bnd1 (kV doc pm : Value) (an : Option Addr) (cdv ct : Value) (us : List Value) (h : us.length = (["store", "many"] : List Str).length) : bindArgs (PySem.W.fnOf "_law_take" "_law_take" (defArgs (top 23)) (defBody (top 23)) (defScope (top 23)) .none kV doc pm an cdv ct) ⟨us, []⟩ = pure ((["store", "many"] : List Str).zip us) := by
  match us, h with
  | [u0, u1], _ => rfl
theorem chk2 : chkS (cx 24 0 d2.N [("_law_store", 1), ("_law_take", 2)]) d2.body (defBody (top 24)) = true := by kernel_rfl
theorem scp2 : C8.scC d2.N ["number", "n"] (defScope (top 24)) = true := by kernel_rfl
theorem bnd2 (kV doc pm : Value) (an : Option Addr) (cdv ct : Value) (us : List Value) (h : us.length = (["number", "n"] : List Str).length) : bindArgs (PySem.W.fnOf "_law_word" "_law_word" (defArgs (top 24)) (defBody (top 24)) (defScope (top 24)) .none kV doc pm an cdv ct) ⟨us, []⟩ = pure ((["number", "n"] : List Str).zip us) := by
  match us, h with
  | [u0, u1], _ => rfl
theorem chk3 : chkS (cx 25 1 d3.N [("_law_store", 1), ("_law_take", 2), ("_law_word", 2)]) d3.body (defBody (top 25)) = true := by kernel_rfl
theorem scp3 : C8.scC d3.N ["store", "kind", "pool", "place", "letter", "sizes"] (defScope (top 25)) = true := by kernel_rfl
theorem bnd3 (kV doc pm : Value) (an : Option Addr) (cdv ct : Value) (us : List Value) (h : us.length = (["store", "kind", "pool", "place", "letter", "sizes"] : List Str).length) : bindArgs (PySem.W.fnOf "_law_branch" "_law_branch" (defArgs (top 25)) (defBody (top 25)) (defScope (top 25)) .none kV doc pm an cdv ct) ⟨us, []⟩ = pure ((["store", "kind", "pool", "place", "letter", "sizes"] : List Str).zip us) := by
  match us, h with
  | [u0, u1, u2, u3, u4, u5], _ => rfl
theorem chk4 : chkS (cx 26 1 d4.N [("_law_store", 1), ("_law_take", 2), ("_law_word", 2), ("_law_branch", 6)]) d4.body (defBody (top 26)) = true := by kernel_rfl
theorem scp4 : C8.scC d4.N ["store", "most"] (defScope (top 26)) = true := by kernel_rfl
theorem bnd4 (kV doc pm : Value) (an : Option Addr) (cdv ct : Value) (us : List Value) (h : us.length = (["store", "most"] : List Str).length) : bindArgs (PySem.W.fnOf "_law_code" "_law_code" (defArgs (top 26)) (defBody (top 26)) (defScope (top 26)) .none kV doc pm an cdv ct) ⟨us, []⟩ = pure ((["store", "most"] : List Str).zip us) := by
  match us, h with
  | [u0, u1], _ => rfl
theorem chk5 : chkS (cx 16 0 d5.N [("_law_store", 1), ("_law_take", 2), ("_law_word", 2), ("_law_branch", 6), ("_law_code", 2)]) d5.body (defBody (top 16)) = true := by kernel_rfl
theorem scp5 : C8.scC d5.N ["code"] (defScope (top 16)) = true := by kernel_rfl
theorem bnd5 (kV doc pm : Value) (an : Option Addr) (cdv ct : Value) (us : List Value) (h : us.length = (["code"] : List Str).length) : bindArgs (PySem.W.fnOf "show" "show" (defArgs (top 16)) (defBody (top 16)) (defScope (top 16)) .none kV doc pm an cdv ct) ⟨us, []⟩ = pure ((["code"] : List Str).zip us) := by
  match us, h with
  | [u0], _ => rfl
theorem chk6 : chkS (cx 17 0 d6.N [("_law_store", 1), ("_law_take", 2), ("_law_word", 2), ("_law_branch", 6), ("_law_code", 2), ("show", 1)]) d6.body (defBody (top 17)) = true := by kernel_rfl
theorem scp6 : C8.scC d6.N ["word"] (defScope (top 17)) = true := by kernel_rfl
theorem bnd6 (kV doc pm : Value) (an : Option Addr) (cdv ct : Value) (us : List Value) (h : us.length = (["word"] : List Str).length) : bindArgs (PySem.W.fnOf "figure_of" "figure_of" (defArgs (top 17)) (defBody (top 17)) (defScope (top 17)) .none kV doc pm an cdv ct) ⟨us, []⟩ = pure ((["word"] : List Str).zip us) := by
  match us, h with
  | [u0], _ => rfl
theorem chk7 : chkS (cx 8 0 d7.N [("_law_store", 1), ("_law_take", 2), ("_law_word", 2), ("_law_branch", 6), ("_law_code", 2), ("show", 1), ("figure_of", 1)]) d7.body (defBody (top 8)) = true := by kernel_rfl
theorem scp7 : C8.scC d7.N ["thing", "least", "most"] (defScope (top 8)) = true := by kernel_rfl
theorem bnd7 (kV doc pm : Value) (an : Option Addr) (cdv ct : Value) (us : List Value) (h : us.length = (["thing", "least", "most"] : List Str).length) : bindArgs (PySem.W.fnOf "is_whole" "is_whole" (defArgs (top 8)) (defBody (top 8)) (defScope (top 8)) .none kV doc pm an cdv ct) ⟨us, []⟩ = pure ((["thing", "least", "most"] : List Str).zip us) := by
  match us, h with
  | [u0, u1, u2], _ => rfl
theorem chk8 : chkS (cx 9 0 d8.N [("_law_store", 1), ("_law_take", 2), ("_law_word", 2), ("_law_branch", 6), ("_law_code", 2), ("show", 1), ("figure_of", 1), ("is_whole", 3)]) d8.body (defBody (top 9)) = true := by kernel_rfl
theorem scp8 : C8.scC d8.N ["thing", "n", "many"] (defScope (top 9)) = true := by kernel_rfl
theorem bnd8 (kV doc pm : Value) (an : Option Addr) (cdv ct : Value) (us : List Value) (h : us.length = (["thing", "n", "many"] : List Str).length) : bindArgs (PySem.W.fnOf "is_pair" "is_pair" (defArgs (top 9)) (defBody (top 9)) (defScope (top 9)) .none kV doc pm an cdv ct) ⟨us, []⟩ = pure ((["thing", "n", "many"] : List Str).zip us) := by
  match us, h with
  | [u0, u1, u2], _ => rfl
theorem chk9 : chkS (cx 10 0 d9.N [("_law_store", 1), ("_law_take", 2), ("_law_word", 2), ("_law_branch", 6), ("_law_code", 2), ("show", 1), ("figure_of", 1), ("is_whole", 3), ("is_pair", 3)]) d9.body (defBody (top 10)) = true := by kernel_rfl
theorem scp9 : C8.scC d9.N ["thing", "k", "n", "many"] (defScope (top 10)) = true := by kernel_rfl
theorem bnd9 (kV doc pm : Value) (an : Option Addr) (cdv ct : Value) (us : List Value) (h : us.length = (["thing", "k", "n", "many"] : List Str).length) : bindArgs (PySem.W.fnOf "is_state" "is_state" (defArgs (top 10)) (defBody (top 10)) (defScope (top 10)) .none kV doc pm an cdv ct) ⟨us, []⟩ = pure ((["thing", "k", "n", "many"] : List Str).zip us) := by
  match us, h with
  | [u0, u1, u2, u3], _ => rfl
theorem chk10 : chkS (cx 11 0 d10.N [("_law_store", 1), ("_law_take", 2), ("_law_word", 2), ("_law_branch", 6), ("_law_code", 2), ("show", 1), ("figure_of", 1), ("is_whole", 3), ("is_pair", 3), ("is_state", 4)]) d10.body (defBody (top 11)) = true := by kernel_rfl
theorem scp10 : C8.scC d10.N ["thing"] (defScope (top 11)) = true := by kernel_rfl
theorem bnd10 (kV doc pm : Value) (an : Option Addr) (cdv ct : Value) (us : List Value) (h : us.length = (["thing"] : List Str).length) : bindArgs (PySem.W.fnOf "is_code" "is_code" (defArgs (top 11)) (defBody (top 11)) (defScope (top 11)) .none kV doc pm an cdv ct) ⟨us, []⟩ = pure ((["thing"] : List Str).zip us) := by
  match us, h with
  | [u0], _ => rfl
theorem chk11 : chkS (cx 18 0 d11.N [("_law_store", 1), ("_law_take", 2), ("_law_word", 2), ("_law_branch", 6), ("_law_code", 2), ("show", 1), ("figure_of", 1), ("is_whole", 3), ("is_pair", 3), ("is_state", 4), ("is_code", 1)]) d11.body (defBody (top 18)) = true := by kernel_rfl
theorem scp11 : C8.scC d11.N ["text"] (defScope (top 18)) = true := by kernel_rfl
theorem bnd11 (kV doc pm : Value) (an : Option Addr) (cdv ct : Value) (us : List Value) (h : us.length = (["text"] : List Str).length) : bindArgs (PySem.W.fnOf "branch_of" "branch_of" (defArgs (top 18)) (defBody (top 18)) (defScope (top 18)) .none kV doc pm an cdv ct) ⟨us, []⟩ = pure ((["text"] : List Str).zip us) := by
  match us, h with
  | [u0], _ => rfl
theorem chk12 : chkS (cx 19 0 d12.N [("_law_store", 1), ("_law_take", 2), ("_law_word", 2), ("_law_branch", 6), ("_law_code", 2), ("show", 1), ("figure_of", 1), ("is_whole", 3), ("is_pair", 3), ("is_state", 4), ("is_code", 1), ("branch_of", 1)]) d12.body (defBody (top 19)) = true := by kernel_rfl
theorem scp12 : C8.scC d12.N ["text"] (defScope (top 19)) = true := by kernel_rfl
theorem bnd12 (kV doc pm : Value) (an : Option Addr) (cdv ct : Value) (us : List Value) (h : us.length = (["text"] : List Str).length) : bindArgs (PySem.W.fnOf "read_code" "read_code" (defArgs (top 19)) (defBody (top 19)) (defScope (top 19)) .none kV doc pm an cdv ct) ⟨us, []⟩ = pure ((["text"] : List Str).zip us) := by
  match us, h with
  | [u0], _ => rfl
theorem chk13 : chkS (cx 28 1 d13.N [("_law_store", 1), ("_law_take", 2), ("_law_word", 2), ("_law_branch", 6), ("_law_code", 2), ("show", 1), ("figure_of", 1), ("is_whole", 3), ("is_pair", 3), ("is_state", 4), ("is_code", 1), ("branch_of", 1), ("read_code", 1)]) d13.body (defBody (top 28)) = true := by kernel_rfl
theorem scp13 : C8.scC d13.N ["store", "code", "most"] (defScope (top 28)) = true := by kernel_rfl
theorem bnd13 (kV doc pm : Value) (an : Option Addr) (cdv ct : Value) (us : List Value) (h : us.length = (["store", "code", "most"] : List Str).length) : bindArgs (PySem.W.fnOf "_law_rows" "_law_rows" (defArgs (top 28)) (defBody (top 28)) (defScope (top 28)) .none kV doc pm an cdv ct) ⟨us, []⟩ = pure ((["store", "code", "most"] : List Str).zip us) := by
  match us, h with
  | [u0, u1, u2], _ => rfl
theorem chk14 : chkS (cx 21 0 d14.N [("_law_store", 1), ("_law_take", 2), ("_law_word", 2), ("_law_branch", 6), ("_law_code", 2), ("show", 1), ("figure_of", 1), ("is_whole", 3), ("is_pair", 3), ("is_state", 4), ("is_code", 1), ("branch_of", 1), ("read_code", 1), ("_law_rows", 3)]) d14.body (defBody (top 21)) = true := by kernel_rfl
theorem scp14 : C8.scC d14.N ["script", "k"] (defScope (top 21)) = true := by kernel_rfl
theorem bnd14 (kV doc pm : Value) (an : Option Addr) (cdv ct : Value) (us : List Value) (h : us.length = (["script", "k"] : List Str).length) : bindArgs (PySem.W.fnOf "_law_cell" "_law_cell" (defArgs (top 21)) (defBody (top 21)) (defScope (top 21)) .none kV doc pm an cdv ct) ⟨us, []⟩ = pure ((["script", "k"] : List Str).zip us) := by
  match us, h with
  | [u0, u1], _ => rfl
theorem chk15 : chkS (cx 31 1 d15.N [("_law_store", 1), ("_law_take", 2), ("_law_word", 2), ("_law_branch", 6), ("_law_code", 2), ("show", 1), ("figure_of", 1), ("is_whole", 3), ("is_pair", 3), ("is_state", 4), ("is_code", 1), ("branch_of", 1), ("read_code", 1), ("_law_rows", 3), ("_law_cell", 2)]) d15.body (defBody (top 31)) = true := by kernel_rfl
theorem scp15 : C8.scC d15.N ["store", "code"] (defScope (top 31)) = true := by kernel_rfl
theorem bnd15 (kV doc pm : Value) (an : Option Addr) (cdv ct : Value) (us : List Value) (h : us.length = (["store", "code"] : List Str).length) : bindArgs (PySem.W.fnOf "_law_other" "_law_other" (defArgs (top 31)) (defBody (top 31)) (defScope (top 31)) .none kV doc pm an cdv ct) ⟨us, []⟩ = pure ((["store", "code"] : List Str).zip us) := by
  match us, h with
  | [u0, u1], _ => rfl
theorem chk16 : chkS (cx 12 0 d16.N [("_law_store", 1), ("_law_take", 2), ("_law_word", 2), ("_law_branch", 6), ("_law_code", 2), ("show", 1), ("figure_of", 1), ("is_whole", 3), ("is_pair", 3), ("is_state", 4), ("is_code", 1), ("branch_of", 1), ("read_code", 1), ("_law_rows", 3), ("_law_cell", 2), ("_law_other", 2)]) d16.body (defBody (top 12)) = true := by kernel_rfl
theorem scp16 : C8.scC d16.N ["k", "text"] (defScope (top 12)) = true := by kernel_rfl
theorem bnd16 (kV doc pm : Value) (an : Option Addr) (cdv ct : Value) (us : List Value) (h : us.length = (["k", "text"] : List Str).length) : bindArgs (PySem.W.fnOf "need_letters" "need_letters" (defArgs (top 12)) (defBody (top 12)) (defScope (top 12)) .none kV doc pm an cdv ct) ⟨us, []⟩ = pure ((["k", "text"] : List Str).zip us) := by
  match us, h with
  | [u0, u1], _ => rfl
theorem chk17 : chkS (cx 13 0 d17.N [("_law_store", 1), ("_law_take", 2), ("_law_word", 2), ("_law_branch", 6), ("_law_code", 2), ("show", 1), ("figure_of", 1), ("is_whole", 3), ("is_pair", 3), ("is_state", 4), ("is_code", 1), ("branch_of", 1), ("read_code", 1), ("_law_rows", 3), ("_law_cell", 2), ("_law_other", 2), ("need_letters", 2)]) d17.body (defBody (top 13)) = true := by kernel_rfl
theorem scp17 : C8.scC d17.N ["code", "state", "text"] (defScope (top 13)) = true := by kernel_rfl
theorem bnd17 (kV doc pm : Value) (an : Option Addr) (cdv ct : Value) (us : List Value) (h : us.length = (["code", "state", "text"] : List Str).length) : bindArgs (PySem.W.fnOf "sent" "sent" (defArgs (top 13)) (defBody (top 13)) (defScope (top 13)) .none kV doc pm an cdv ct) ⟨us, []⟩ = pure ((["code", "state", "text"] : List Str).zip us) := by
  match us, h with
  | [u0, u1, u2], _ => rfl
theorem chk18 : chkS (cx 29 0 d18.N [("_law_store", 1), ("_law_take", 2), ("_law_word", 2), ("_law_branch", 6), ("_law_code", 2), ("show", 1), ("figure_of", 1), ("is_whole", 3), ("is_pair", 3), ("is_state", 4), ("is_code", 1), ("branch_of", 1), ("read_code", 1), ("_law_rows", 3), ("_law_cell", 2), ("_law_other", 2), ("need_letters", 2), ("sent", 3)]) d18.body (defBody (top 29)) = true := by kernel_rfl
theorem scp18 : C8.scC d18.N ["code", "place", "text"] (defScope (top 29)) = true := by kernel_rfl
theorem bnd18 (kV doc pm : Value) (an : Option Addr) (cdv ct : Value) (us : List Value) (h : us.length = (["code", "place", "text"] : List Str).length) : bindArgs (PySem.W.fnOf "_law_sent" "_law_sent" (defArgs (top 29)) (defBody (top 29)) (defScope (top 29)) .none kV doc pm an cdv ct) ⟨us, []⟩ = pure ((["code", "place", "text"] : List Str).zip us) := by
  match us, h with
  | [u0, u1, u2], _ => rfl
theorem chk20 : chkS (cx 30 0 d20.N [("_law_store", 1), ("_law_take", 2), ("_law_word", 2), ("_law_branch", 6), ("_law_code", 2), ("show", 1), ("figure_of", 1), ("is_whole", 3), ("is_pair", 3), ("is_state", 4), ("is_code", 1), ("branch_of", 1), ("read_code", 1), ("_law_rows", 3), ("_law_cell", 2), ("_law_other", 2), ("need_letters", 2), ("sent", 3), ("_law_sent", 3), ("_law_same", 2)]) d20.body (defBody (top 30)) = true := by kernel_rfl
theorem scp20 : C8.scC d20.N ["found", "due"] (defScope (top 30)) = true := by kernel_rfl
theorem bnd20 (kV doc pm : Value) (an : Option Addr) (cdv ct : Value) (us : List Value) (h : us.length = (["found", "due"] : List Str).length) : bindArgs (PySem.W.fnOf "_law_same" "_law_same" (defArgs (top 30)) (defBody (top 30)) (defScope (top 30)) .none kV doc pm an cdv ct) ⟨us, []⟩ = pure ((["found", "due"] : List Str).zip us) := by
  match us, h with
  | [u0, u1], _ => rfl
theorem chk21 : chkS (cx 30 0 d21.N [("_law_store", 1), ("_law_take", 2), ("_law_word", 2), ("_law_branch", 6), ("_law_code", 2), ("show", 1), ("figure_of", 1), ("is_whole", 3), ("is_pair", 3), ("is_state", 4), ("is_code", 1), ("branch_of", 1), ("read_code", 1), ("_law_rows", 3), ("_law_cell", 2), ("_law_other", 2), ("need_letters", 2), ("sent", 3), ("_law_sent", 3), ("_law_same", 2), ("_law_same", 2)]) d21.body (defBody (top 30)) = true := by kernel_rfl
theorem scp21 : C8.scC d21.N ["found", "due"] (defScope (top 30)) = true := by kernel_rfl
theorem bnd21 (kV doc pm : Value) (an : Option Addr) (cdv ct : Value) (us : List Value) (h : us.length = (["found", "due"] : List Str).length) : bindArgs (PySem.W.fnOf "_law_same" "_law_same" (defArgs (top 30)) (defBody (top 30)) (defScope (top 30)) .none kV doc pm an cdv ct) ⟨us, []⟩ = pure ((["found", "due"] : List Str).zip us) := by
  match us, h with
  | [u0, u1], _ => rfl
theorem chk22 : chkS (cx 30 0 d22.N [("_law_store", 1), ("_law_take", 2), ("_law_word", 2), ("_law_branch", 6), ("_law_code", 2), ("show", 1), ("figure_of", 1), ("is_whole", 3), ("is_pair", 3), ("is_state", 4), ("is_code", 1), ("branch_of", 1), ("read_code", 1), ("_law_rows", 3), ("_law_cell", 2), ("_law_other", 2), ("need_letters", 2), ("sent", 3), ("_law_sent", 3), ("_law_same", 2), ("_law_same", 2), ("_law_same", 2)]) d22.body (defBody (top 30)) = true := by kernel_rfl
theorem scp22 : C8.scC d22.N ["found", "due"] (defScope (top 30)) = true := by kernel_rfl
theorem bnd22 (kV doc pm : Value) (an : Option Addr) (cdv ct : Value) (us : List Value) (h : us.length = (["found", "due"] : List Str).length) : bindArgs (PySem.W.fnOf "_law_same" "_law_same" (defArgs (top 30)) (defBody (top 30)) (defScope (top 30)) .none kV doc pm an cdv ct) ⟨us, []⟩ = pure ((["found", "due"] : List Str).zip us) := by
  match us, h with
  | [u0, u1], _ => rfl
theorem chk23 : chkS (cx 30 0 d23.N [("_law_store", 1), ("_law_take", 2), ("_law_word", 2), ("_law_branch", 6), ("_law_code", 2), ("show", 1), ("figure_of", 1), ("is_whole", 3), ("is_pair", 3), ("is_state", 4), ("is_code", 1), ("branch_of", 1), ("read_code", 1), ("_law_rows", 3), ("_law_cell", 2), ("_law_other", 2), ("need_letters", 2), ("sent", 3), ("_law_sent", 3), ("_law_same", 2), ("_law_same", 2), ("_law_same", 2), ("_law_same", 2)]) d23.body (defBody (top 30)) = true := by kernel_rfl
theorem scp23 : C8.scC d23.N ["found", "due"] (defScope (top 30)) = true := by kernel_rfl
theorem bnd23 (kV doc pm : Value) (an : Option Addr) (cdv ct : Value) (us : List Value) (h : us.length = (["found", "due"] : List Str).length) : bindArgs (PySem.W.fnOf "_law_same" "_law_same" (defArgs (top 30)) (defBody (top 30)) (defScope (top 30)) .none kV doc pm an cdv ct) ⟨us, []⟩ = pure ((["found", "due"] : List Str).zip us) := by
  match us, h with
  | [u0, u1], _ => rfl
theorem chk24 : chkS (cx 30 0 d24.N [("_law_store", 1), ("_law_take", 2), ("_law_word", 2), ("_law_branch", 6), ("_law_code", 2), ("show", 1), ("figure_of", 1), ("is_whole", 3), ("is_pair", 3), ("is_state", 4), ("is_code", 1), ("branch_of", 1), ("read_code", 1), ("_law_rows", 3), ("_law_cell", 2), ("_law_other", 2), ("need_letters", 2), ("sent", 3), ("_law_sent", 3), ("_law_same", 2), ("_law_same", 2), ("_law_same", 2), ("_law_same", 2), ("_law_same", 2)]) d24.body (defBody (top 30)) = true := by kernel_rfl
theorem scp24 : C8.scC d24.N ["found", "due"] (defScope (top 30)) = true := by kernel_rfl
theorem bnd24 (kV doc pm : Value) (an : Option Addr) (cdv ct : Value) (us : List Value) (h : us.length = (["found", "due"] : List Str).length) : bindArgs (PySem.W.fnOf "_law_same" "_law_same" (defArgs (top 30)) (defBody (top 30)) (defScope (top 30)) .none kV doc pm an cdv ct) ⟨us, []⟩ = pure ((["found", "due"] : List Str).zip us) := by
  match us, h with
  | [u0, u1], _ => rfl
theorem chk25 : chkS (cx 32 0 d25.N [("_law_store", 1), ("_law_take", 2), ("_law_word", 2), ("_law_branch", 6), ("_law_code", 2), ("show", 1), ("figure_of", 1), ("is_whole", 3), ("is_pair", 3), ("is_state", 4), ("is_code", 1), ("branch_of", 1), ("read_code", 1), ("_law_rows", 3), ("_law_cell", 2), ("_law_other", 2), ("need_letters", 2), ("sent", 3), ("_law_sent", 3), ("_law_same", 2), ("_law_same", 2), ("_law_same", 2), ("_law_same", 2), ("_law_same", 2), ("_law_same", 2)]) d25.body (defBody (top 32)) = true := by kernel_rfl
theorem scp25 : C8.scC d25.N ["script"] (defScope (top 32)) = true := by kernel_rfl
theorem bnd25 (kV doc pm : Value) (an : Option Addr) (cdv ct : Value) (us : List Value) (h : us.length = (["script"] : List Str).length) : bindArgs (PySem.W.fnOf "law" "law" (defArgs (top 32)) (defBody (top 32)) (defScope (top 32)) .none kV doc pm an cdv ct) ⟨us, []⟩ = pure ((["script"] : List Str).zip us) := by
  match us, h with
  | [u0], _ => rfl
/-! ### a store of numbers, a code drawn from it -/
def StoOk (d : D) : Prop := ∃ a b c : Int, d = .lst [.int a, .int b, .int c]
theorem take0_ok (a b c m : Int) (h0 : 0 < m) (h1 : m < 1073741824) : ∃ r a' c', f1.F [(.lst [.int a, .int b, .int c], 1), (.int m, 0)] = .ok (.int r) 0 [(.lst [.int a', .int b, .int c'], 1)] ∧ 0 ≤ r ∧ r < m := by
  by_cases ha : 0 < a
  · refine ⟨a % m, a / m, c, ?_, Int.emod_nonneg _ (by omega), Int.emod_lt_of_pos _ h0⟩
    unfold f1
    rw [r_runF rfl]
    simp [d1, r_bind_ok, r_res_some, r_OBt, s_nil, s_one, k_nx, k_ret, k_brk, k_cnt, s_kill, s_frz, s_set, s_unp, k_unp, s_ifs, k_ifT, k_ifF, s_fr, s_ret, s_ex, s_setix, s_brk, s_cnt, s_pass, e_var, k_var, e_frz, k_frz, e_mv, k_mv, e_cst, k_cst, c_int, c_bl, c_non, c_str, e_op, a_nil, a_cons, e_lend, t_lend, k_lend, k_lendT, e_and, e_or, e_not, t_and, t_or, t_not, t_op, t_var, t_call, t_cio, t_cst, k_andTT, k_andTF, k_orTT, k_orTF, k_andOT, k_andOF, k_orOT, k_orOF, k_notO, e_lst, e_tup, e_call, e_cio, k_cio, k_out, e_cit, k_cit, e_comp, e_idx, k_idx, e_mut, k_mutS1, k_mutO, k_setS1, k_setO, e_slc, o_no, i_rng1, k_rng1, i_ex, k_itrL, r_fl, at0, at1, at2, oEq_int, oEq_str, kSet, kUnp, kRet, kEx, kCons, kCons2, kOp, kTest, kAnd, kOr, kNot, kNotT, kLst, kTup, kCall, kCio, kCit, kCit2, kComp2, kIdx, kMut, kSetix, kSetix2, kSlc, kSlc2, kSlc3, kFor, inits, opSem, oBin, oCmp, oIx, setL, okd, flat, truth, getSlots, upto, bindT, bindTs, wipeE, frzE, retC, freeze1, putSlots, nodupB, oB1, oB2, mutL, isOwnL, big, oMk, oCk, full, fullL, lendE_nil, lendE_cons, lendS_none, lendS_some, s_blk, k_blk, k_blkM, mergeE, s_whl, s_inc, k_incO, k_inc2, kInc2, o_so, k_so, oSlc, ot_so, ot_no, e_callv, t_callv, k_callvS, k_callvL, kCallvR, retN, kChnE, kChnA, kChnB, e_chn, t_chn, k_chnT, k_chnF, kChn3A, kChn3B, kChn3F, e_chn3, t_chn3, k_chn3T, k_chn3F, r_OBr, r_nxE, i_rng3, kR3a, kR3b, kR3c, e_mutp, k_pm3, k_pm2, kPm1, k_pm, s_setp, kSp4, k_sp3, k_sp2, k_sp1, k_sp, pe_k, e_pth, k_pth, k_pth2, ixN, ha, h0, h1]
  · have hr1 : ∀ x : Int, -18446744073709551616 < x % 2147483647 := fun x => by omega
    have hr2 : ∀ x : Int, x % 2147483647 < 18446744073709551616 := fun x => by omega
    have e : ∃ n c', f1.F [(.lst [.int a, .int b, .int c], 1), (.int m, 0)] = .ok (.int (n % m)) 0 [(.lst [.int a, .int b, .int c'], 1)] := by
      unfold f1
      rw [r_runF rfl]
      simp [d1, r_bind_ok, r_res_some, r_OBt, s_nil, s_one, k_nx, k_ret, k_brk, k_cnt, s_kill, s_frz, s_set, s_unp, k_unp, s_ifs, k_ifT, k_ifF, s_fr, s_ret, s_ex, s_setix, s_brk, s_cnt, s_pass, e_var, k_var, e_frz, k_frz, e_mv, k_mv, e_cst, k_cst, c_int, c_bl, c_non, c_str, e_op, a_nil, a_cons, e_lend, t_lend, k_lend, k_lendT, e_and, e_or, e_not, t_and, t_or, t_not, t_op, t_var, t_call, t_cio, t_cst, k_andTT, k_andTF, k_orTT, k_orTF, k_andOT, k_andOF, k_orOT, k_orOF, k_notO, e_lst, e_tup, e_call, e_cio, k_cio, k_out, e_cit, k_cit, e_comp, e_idx, k_idx, e_mut, k_mutS1, k_mutO, k_setS1, k_setO, e_slc, o_no, i_rng1, k_rng1, i_ex, k_itrL, r_fl, at0, at1, at2, oEq_int, oEq_str, kSet, kUnp, kRet, kEx, kCons, kCons2, kOp, kTest, kAnd, kOr, kNot, kNotT, kLst, kTup, kCall, kCio, kCit, kCit2, kComp2, kIdx, kMut, kSetix, kSetix2, kSlc, kSlc2, kSlc3, kFor, inits, opSem, oBin, oCmp, oIx, setL, okd, flat, truth, getSlots, upto, bindT, bindTs, wipeE, frzE, retC, freeze1, putSlots, nodupB, oB1, oB2, mutL, isOwnL, big, oMk, oCk, full, fullL, lendE_nil, lendE_cons, lendS_none, lendS_some, s_blk, k_blk, k_blkM, mergeE, s_whl, s_inc, k_incO, k_inc2, kInc2, o_so, k_so, oSlc, ot_so, ot_no, e_callv, t_callv, k_callvS, k_callvL, kCallvR, retN, kChnE, kChnA, kChnB, e_chn, t_chn, k_chnT, k_chnF, kChn3A, kChn3B, kChn3F, e_chn3, t_chn3, k_chn3T, k_chn3F, r_OBr, r_nxE, i_rng3, kR3a, kR3b, kR3c, e_mutp, k_pm3, k_pm2, kPm1, k_pm, s_setp, kSp4, k_sp3, k_sp2, k_sp1, k_sp, pe_k, e_pth, k_pth, k_pth2, ixN, ha, h0, h1, hr1, hr2]
      exact ⟨_, rfl⟩
    obtain ⟨n, c', e⟩ := e
    exact ⟨_, _, _, e, Int.emod_nonneg _ (by omega), Int.emod_lt_of_pos _ h0⟩
theorem tk {d : D} (h : StoOk d) {m : Int} (h0 : 0 < m) (h1 : m < 1073741824) : ∃ (r : Int) (d' : D), f1.F [(d, 1), (.int m, 0)] = .ok (.int r) 0 [(d', 1)] ∧ 0 ≤ r ∧ r < m ∧ StoOk d' := by
  obtain ⟨a, b, c, rfl⟩ := h
  obtain ⟨r, a', c', e, p1, p2⟩ := take0_ok a b c m h0 h1
  exact ⟨r, _, e, p1, p2, a', b, c', rfl⟩
theorem tk_at {α : Type} {d : D} (hd : StoOk d) (f : α → D) {l : List α} (h0 : l ≠ []) (h1 : l.length ≤ 1000000) : ∃ x ∈ l, ∃ (r : Int) (d' : D), f1.F [(d, 1), (.int (l.length : Nat), 0)] = .ok (.int r) 0 [(d', 1)] ∧ L2.atI (l.map f) r = some (f x) ∧ 0 ≤ r ∧ r < l.length ∧ StoOk d' := by
  have hl : 0 < l.length := List.length_pos_iff.mpr h0
  obtain ⟨r, d', e, p1, p2, hd'⟩ := tk hd (m := (l.length : Nat)) (by omega) (by omega)
  obtain ⟨x, hx, e1, e2⟩ := at_mem f p1 p2
  exact ⟨x, hx, r, d', e, e2, p1, p2, hd'⟩
theorem io_take : f1.io = 1 := rfl
theorem io_word : f2.io = 0 := rfl
theorem s01 : (Str.ofString "01").cps.toList = [48, 49] := by decide
theorem sE : (Str.ofString "").cps.toList = [] := by decide
theorem word_ok (x n : Int) (h0 : 0 ≤ n) (h1 : n < 1000) : ∃ s, f2.F [(.int x, 0), (.int n, 0)] = .ok (.str s) 0 [] ∧ BitW n.toNat s := by
  obtain ⟨env', h2, x', s, k, rfl, hw⟩ := floop_inv (t := .nm 3) (b := evS (look [f0, f1]) b2_0) (fun i env => ∃ x s k, env = [some (.int x, 0), some (.int n, 0), some (.str s, 0), k] ∧ BitW i s) (ds := rangeL 0 1 n.toNat) (env := [some (.int x, 0), some (.int n, 0), some (.str [], 0), none]) (k := 0)
    ⟨x, [], none, rfl, rfl, fun c h => nomatch h⟩ (fun i d env hd ⟨x, s, k, e, hw⟩ => by
      subst e
      obtain ⟨hi, rfl⟩ := rangeL_get hd
      have hl : 1 + s.length ≤ 16777216 := by have := hw.1; omega
      have hx : x % 2 = 0 ∨ x % 2 = 1 := by omega
      have key : ∃ ch : Nat, (ch = 48 ∨ ch = 49) ∧ evS (look [f0, f1]) b2_0 [some (.int x, 0), some (.int n, 0), some (.str s, 0), some (.int (0 + (i : Int) * 1), 0)] = .ok .nx [some (.int (x / 2), 0), some (.int n, 0), some (.str (ch :: s), 0), some (.int (0 + (i : Int) * 1), 0)] := by
        rcases hx with hx | hx
        · refine ⟨48, .inl rfl, ?_⟩
          simp [b2_0, r_bind_ok, r_res_some, r_OBt, s_nil, s_one, k_nx, k_ret, k_brk, k_cnt, s_kill, s_frz, s_set, s_unp, k_unp, s_ifs, k_ifT, k_ifF, s_fr, s_ret, s_ex, s_setix, s_brk, s_cnt, s_pass, e_var, k_var, e_frz, k_frz, e_mv, k_mv, e_cst, k_cst, c_int, c_bl, c_non, c_str, e_op, a_nil, a_cons, e_lend, t_lend, k_lend, k_lendT, e_and, e_or, e_not, t_and, t_or, t_not, t_op, t_var, t_call, t_cio, t_cst, k_andTT, k_andTF, k_orTT, k_orTF, k_andOT, k_andOF, k_orOT, k_orOF, k_notO, e_lst, e_tup, e_call, e_cio, k_cio, k_out, e_cit, k_cit, e_comp, e_idx, k_idx, e_mut, k_mutS1, k_mutO, k_setS1, k_setO, e_slc, o_no, i_rng1, k_rng1, i_ex, k_itrL, r_fl, at0, at1, at2, oEq_int, oEq_str, kSet, kUnp, kRet, kEx, kCons, kCons2, kOp, kTest, kAnd, kOr, kNot, kNotT, kLst, kTup, kCall, kCio, kCit, kCit2, kComp2, kIdx, kMut, kSetix, kSetix2, kSlc, kSlc2, kSlc3, kFor, inits, opSem, oBin, oCmp, oIx, setL, okd, flat, truth, getSlots, upto, bindT, bindTs, wipeE, frzE, retC, freeze1, putSlots, nodupB, oB1, oB2, mutL, isOwnL, big, oMk, oCk, full, fullL, lendE_nil, lendE_cons, lendS_none, lendS_some, s_blk, k_blk, k_blkM, mergeE, s_whl, s_inc, k_incO, k_inc2, kInc2, o_so, k_so, oSlc, ot_so, ot_no, e_callv, t_callv, k_callvS, k_callvL, kCallvR, retN, kChnE, kChnA, kChnB, e_chn, t_chn, k_chnT, k_chnF, kChn3A, kChn3B, kChn3F, e_chn3, t_chn3, k_chn3T, k_chn3F, r_OBr, r_nxE, i_rng3, kR3a, kR3b, kR3c, e_mutp, k_pm3, k_pm2, kPm1, k_pm, s_setp, kSp4, k_sp3, k_sp2, k_sp1, k_sp, pe_k, e_pth, k_pth, k_pth2, hx, s01, hl]
        · refine ⟨49, .inr rfl, ?_⟩
          simp [b2_0, r_bind_ok, r_res_some, r_OBt, s_nil, s_one, k_nx, k_ret, k_brk, k_cnt, s_kill, s_frz, s_set, s_unp, k_unp, s_ifs, k_ifT, k_ifF, s_fr, s_ret, s_ex, s_setix, s_brk, s_cnt, s_pass, e_var, k_var, e_frz, k_frz, e_mv, k_mv, e_cst, k_cst, c_int, c_bl, c_non, c_str, e_op, a_nil, a_cons, e_lend, t_lend, k_lend, k_lendT, e_and, e_or, e_not, t_and, t_or, t_not, t_op, t_var, t_call, t_cio, t_cst, k_andTT, k_andTF, k_orTT, k_orTF, k_andOT, k_andOF, k_orOT, k_orOF, k_notO, e_lst, e_tup, e_call, e_cio, k_cio, k_out, e_cit, k_cit, e_comp, e_idx, k_idx, e_mut, k_mutS1, k_mutO, k_setS1, k_setO, e_slc, o_no, i_rng1, k_rng1, i_ex, k_itrL, r_fl, at0, at1, at2, oEq_int, oEq_str, kSet, kUnp, kRet, kEx, kCons, kCons2, kOp, kTest, kAnd, kOr, kNot, kNotT, kLst, kTup, kCall, kCio, kCit, kCit2, kComp2, kIdx, kMut, kSetix, kSetix2, kSlc, kSlc2, kSlc3, kFor, inits, opSem, oBin, oCmp, oIx, setL, okd, flat, truth, getSlots, upto, bindT, bindTs, wipeE, frzE, retC, freeze1, putSlots, nodupB, oB1, oB2, mutL, isOwnL, big, oMk, oCk, full, fullL, lendE_nil, lendE_cons, lendS_none, lendS_some, s_blk, k_blk, k_blkM, mergeE, s_whl, s_inc, k_incO, k_inc2, kInc2, o_so, k_so, oSlc, ot_so, ot_no, e_callv, t_callv, k_callvS, k_callvL, kCallvR, retN, kChnE, kChnA, kChnB, e_chn, t_chn, k_chnT, k_chnF, kChn3A, kChn3B, kChn3F, e_chn3, t_chn3, k_chn3T, k_chn3F, r_OBr, r_nxE, i_rng3, kR3a, kR3b, kR3c, e_mutp, k_pm3, k_pm2, kPm1, k_pm, s_setp, kSp4, k_sp3, k_sp2, k_sp1, k_sp, pe_k, e_pth, k_pth, k_pth2, hx, s01, hl]
      obtain ⟨ch, h3, h4⟩ := key
      refine ⟨_, _, rfl, .inl h4, x / 2, ch :: s, _, rfl, ?_, fun c hc => ?_⟩
      · show s.length + 1 = _
        rw [hw.1]
      · rcases List.mem_cons.mp hc with e | e
        · rw [e]; exact h3
        · exact hw.2 c e)
  refine ⟨s, ?_, by rw [rangeL_len] at hw; simpa using hw⟩
  have hz : -4611686018427387904 ≤ n := by omega
  have hn : n ≤ 16777216 := by omega
  unfold f2
  rw [r_runF rfl]
  simp [d2, r_bind_ok, r_res_some, r_OBt, s_nil, s_one, k_nx, k_ret, k_brk, k_cnt, s_kill, s_frz, s_set, s_unp, k_unp, s_ifs, k_ifT, k_ifF, s_fr, s_ret, s_ex, s_setix, s_brk, s_cnt, s_pass, e_var, k_var, e_frz, k_frz, e_mv, k_mv, e_cst, k_cst, c_int, c_bl, c_non, c_str, e_op, a_nil, a_cons, e_lend, t_lend, k_lend, k_lendT, e_and, e_or, e_not, t_and, t_or, t_not, t_op, t_var, t_call, t_cio, t_cst, k_andTT, k_andTF, k_orTT, k_orTF, k_andOT, k_andOF, k_orOT, k_orOF, k_notO, e_lst, e_tup, e_call, e_cio, k_cio, k_out, e_cit, k_cit, e_comp, e_idx, k_idx, e_mut, k_mutS1, k_mutO, k_setS1, k_setO, e_slc, o_no, i_rng1, k_rng1, i_ex, k_itrL, r_fl, at0, at1, at2, oEq_int, oEq_str, kSet, kUnp, kRet, kEx, kCons, kCons2, kOp, kTest, kAnd, kOr, kNot, kNotT, kLst, kTup, kCall, kCio, kCit, kCit2, kComp2, kIdx, kMut, kSetix, kSetix2, kSlc, kSlc2, kSlc3, kFor, inits, opSem, oBin, oCmp, oIx, setL, okd, flat, truth, getSlots, upto, bindT, bindTs, wipeE, frzE, retC, freeze1, putSlots, nodupB, oB1, oB2, mutL, isOwnL, big, oMk, oCk, full, fullL, lendE_nil, lendE_cons, lendS_none, lendS_some, s_blk, k_blk, k_blkM, mergeE, s_whl, s_inc, k_incO, k_inc2, kInc2, o_so, k_so, oSlc, ot_so, ot_no, e_callv, t_callv, k_callvS, k_callvL, kCallvR, retN, kChnE, kChnA, kChnB, e_chn, t_chn, k_chnT, k_chnF, kChn3A, kChn3B, kChn3F, e_chn3, t_chn3, k_chn3T, k_chn3F, r_OBr, r_nxE, i_rng3, kR3a, kR3b, kR3c, e_mutp, k_pm3, k_pm2, kPm1, k_pm, s_setp, kSp4, k_sp3, k_sp2, k_sp1, k_sp, pe_k, e_pth, k_pth, k_pth2, hz, hn, sE, h2]
theorem pow_at {n : Int} (h1 : 1 ≤ n) (h2 : n ≤ 6) : ∃ t : Int, L2.atI [D.int 2, D.int 4, D.int 8, D.int 16, D.int 32, D.int 64] (n - 1) = some (D.int t) ∧ 0 < t ∧ t ≤ 64 := by
  have : n = 1 ∨ n = 2 ∨ n = 3 ∨ n = 4 ∨ n = 5 ∨ n = 6 := by omega
  rcases this with rfl | rfl | rfl | rfl | rfl | rfl
  · exact ⟨2, rfl, by decide, by decide⟩
  · exact ⟨4, rfl, by decide, by decide⟩
  · exact ⟨8, rfl, by decide, by decide⟩
  · exact ⟨16, rfl, by decide, by decide⟩
  · exact ⟨32, rfl, by decide, by decide⟩
  · exact ⟨64, rfl, by decide, by decide⟩
theorem branch_ok {d : D} (hd : StoOk d) (kind place letter k n many : Int) (pool : List (List Nat)) (hn : 1 ≤ n) (hn6 : n ≤ 6) (hm : 0 < many) (hm8 : many ≤ 1000) (hp : pool ≠ []) (hpl : pool.length ≤ 1000) (hw : ∀ w ∈ pool, BitW n.toNat w) :
    ∃ (w : List Nat) (bh : Int) (d' : D), f3.F [(d, 1), (.int kind, 0), (.lst (pool.map .str), 0), (.int place, 0), (.int letter, 0), (.tup [.int k, .int n, .int many], 0)] = .ok (.tup [.str w, .int bh]) 1 [(d', 1)] ∧ BitW n.toNat w ∧ 0 ≤ bh ∧ bh < many ∧ StoOk d' := by
  have lk1 : look [f0, f1, f2] 1 = f1 := rfl
  have lk2 : look [f0, f1, f2] 2 = f2 := rfl
  obtain ⟨r1, dk1, e1, h1, h2, hd1⟩ := tk hd (m := many) hm (by omega)
  obtain ⟨w, hwp, r2, dk2, e2, hat, h3, h4, hd2⟩ := tk_at hd1 D.str hp (by omega)
  have hl : 0 < pool.length := List.length_pos_iff.mpr hp
  obtain ⟨w0, hw0, _, hat0⟩ := at_mem (l := pool) D.str (r := 0) (by omega) (by omega)
  obtain ⟨t, ht, ht0, ht1⟩ := pow_at hn hn6
  obtain ⟨g, hg⟩ := Classical.skolem.mp fun x => word_ok x n (by omega) (by omega)
  have hg1 := fun x => (hg x).1
  have hg2 := fun x => (hg x).2
  obtain ⟨r3, dk3, e3, h5, h6, hd3⟩ := tk hd2 (m := 64) (by omega) (by omega)
  have hww := hw w hwp
  have hpm : -18446744073709551616 < (pool.length : Int) := by omega
  have hmz : many ≠ 0 := by omega
  have hfin := Int.emod_nonneg (2 * place + letter) hmz
  have hfin2 := Int.emod_lt_of_pos (2 * place + letter) hm
  have hmul : ∀ z : Int, ((-18446744073709551616 < letter ∧ letter < 18446744073709551616) ∨ (-18446744073709551616 < 2 * (place % 3) + 1 ∧ 2 * (place % 3) + 1 < 18446744073709551616)) := fun z => .inr (by omega)
  have hmul1 : ((-18446744073709551616 < letter ∧ letter < 18446744073709551616) ∨ (-18446744073709551616 < 2 * (pool.length : Int) + 1 ∧ 2 * (pool.length : Int) + 1 < 18446744073709551616)) := .inr (by omega)
  have hmul2 := hmul 0
  unfold f3
  rw [r_runF rfl]
  by_cases k2 : kind = 2
  · subst k2
    simp [d3, r_bind_ok, r_res_some, r_OBt, s_nil, s_one, k_nx, k_ret, k_brk, k_cnt, s_kill, s_frz, s_set, s_unp, k_unp, s_ifs, k_ifT, k_ifF, s_fr, s_ret, s_ex, s_setix, s_brk, s_cnt, s_pass, e_var, k_var, e_frz, k_frz, e_mv, k_mv, e_cst, k_cst, c_int, c_bl, c_non, c_str, e_op, a_nil, a_cons, e_lend, t_lend, k_lend, k_lendT, e_and, e_or, e_not, t_and, t_or, t_not, t_op, t_var, t_call, t_cio, t_cst, k_andTT, k_andTF, k_orTT, k_orTF, k_andOT, k_andOF, k_orOT, k_orOF, k_notO, e_lst, e_tup, e_call, e_cio, k_cio, k_out, e_cit, k_cit, e_comp, e_idx, k_idx, e_mut, k_mutS1, k_mutO, k_setS1, k_setO, e_slc, o_no, i_rng1, k_rng1, i_ex, k_itrL, r_fl, at0, at1, at2, oEq_int, oEq_str, kSet, kUnp, kRet, kEx, kCons, kCons2, kOp, kTest, kAnd, kOr, kNot, kNotT, kLst, kTup, kCall, kCio, kCit, kCit2, kComp2, kIdx, kMut, kSetix, kSetix2, kSlc, kSlc2, kSlc3, kFor, inits, opSem, oBin, oCmp, oIx, setL, okd, flat, truth, getSlots, upto, bindT, bindTs, wipeE, frzE, retC, freeze1, putSlots, nodupB, oB1, oB2, mutL, isOwnL, big, oMk, oCk, full, fullL, lendE_nil, lendE_cons, lendS_none, lendS_some, s_blk, k_blk, k_blkM, mergeE, s_whl, s_inc, k_incO, k_inc2, kInc2, o_so, k_so, oSlc, ot_so, ot_no, e_callv, t_callv, k_callvS, k_callvL, kCallvR, retN, kChnE, kChnA, kChnB, e_chn, t_chn, k_chnT, k_chnF, kChn3A, kChn3B, kChn3F, e_chn3, t_chn3, k_chn3T, k_chn3F, r_OBr, r_nxE, i_rng3, kR3a, kR3b, kR3c, e_mutp, k_pm3, k_pm2, kPm1, k_pm, s_setp, kSp4, k_sp3, k_sp2, k_sp1, k_sp, pe_k, e_pth, k_pth, k_pth2, oMk, oCk, hat, hat0, ht, lk1, lk2, io_take, io_word, e1, e2, hm]
    exact ⟨_, _, _, ⟨⟨rfl, rfl⟩, rfl⟩, hww, hfin, hfin2, hd2⟩
  by_cases k3 : kind = 3
  · subst k3
    by_cases hkn : k ≤ n
    · simp [d3, r_bind_ok, r_res_some, r_OBt, s_nil, s_one, k_nx, k_ret, k_brk, k_cnt, s_kill, s_frz, s_set, s_unp, k_unp, s_ifs, k_ifT, k_ifF, s_fr, s_ret, s_ex, s_setix, s_brk, s_cnt, s_pass, e_var, k_var, e_frz, k_frz, e_mv, k_mv, e_cst, k_cst, c_int, c_bl, c_non, c_str, e_op, a_nil, a_cons, e_lend, t_lend, k_lend, k_lendT, e_and, e_or, e_not, t_and, t_or, t_not, t_op, t_var, t_call, t_cio, t_cst, k_andTT, k_andTF, k_orTT, k_orTF, k_andOT, k_andOF, k_orOT, k_orOF, k_notO, e_lst, e_tup, e_call, e_cio, k_cio, k_out, e_cit, k_cit, e_comp, e_idx, k_idx, e_mut, k_mutS1, k_mutO, k_setS1, k_setO, e_slc, o_no, i_rng1, k_rng1, i_ex, k_itrL, r_fl, at0, at1, at2, oEq_int, oEq_str, kSet, kUnp, kRet, kEx, kCons, kCons2, kOp, kTest, kAnd, kOr, kNot, kNotT, kLst, kTup, kCall, kCio, kCit, kCit2, kComp2, kIdx, kMut, kSetix, kSetix2, kSlc, kSlc2, kSlc3, kFor, inits, opSem, oBin, oCmp, oIx, setL, okd, flat, truth, getSlots, upto, bindT, bindTs, wipeE, frzE, retC, freeze1, putSlots, nodupB, oB1, oB2, mutL, isOwnL, big, oMk, oCk, full, fullL, lendE_nil, lendE_cons, lendS_none, lendS_some, s_blk, k_blk, k_blkM, mergeE, s_whl, s_inc, k_incO, k_inc2, kInc2, o_so, k_so, oSlc, ot_so, ot_no, e_callv, t_callv, k_callvS, k_callvL, kCallvR, retN, kChnE, kChnA, kChnB, e_chn, t_chn, k_chnT, k_chnF, kChn3A, kChn3B, kChn3F, e_chn3, t_chn3, k_chn3T, k_chn3F, r_OBr, r_nxE, i_rng3, kR3a, kR3b, kR3c, e_mutp, k_pm3, k_pm2, kPm1, k_pm, s_setp, kSp4, k_sp3, k_sp2, k_sp1, k_sp, pe_k, e_pth, k_pth, k_pth2, oMk, oCk, hat, hat0, ht, lk1, lk2, io_take, io_word, e1, e2, hm, hkn, hg1, ht0, hmul1]
      exact ⟨_, _, _, ⟨⟨rfl, rfl⟩, rfl⟩, hg2 _, h1, h2, hd2⟩
    · simp [d3, r_bind_ok, r_res_some, r_OBt, s_nil, s_one, k_nx, k_ret, k_brk, k_cnt, s_kill, s_frz, s_set, s_unp, k_unp, s_ifs, k_ifT, k_ifF, s_fr, s_ret, s_ex, s_setix, s_brk, s_cnt, s_pass, e_var, k_var, e_frz, k_frz, e_mv, k_mv, e_cst, k_cst, c_int, c_bl, c_non, c_str, e_op, a_nil, a_cons, e_lend, t_lend, k_lend, k_lendT, e_and, e_or, e_not, t_and, t_or, t_not, t_op, t_var, t_call, t_cio, t_cst, k_andTT, k_andTF, k_orTT, k_orTF, k_andOT, k_andOF, k_orOT, k_orOF, k_notO, e_lst, e_tup, e_call, e_cio, k_cio, k_out, e_cit, k_cit, e_comp, e_idx, k_idx, e_mut, k_mutS1, k_mutO, k_setS1, k_setO, e_slc, o_no, i_rng1, k_rng1, i_ex, k_itrL, r_fl, at0, at1, at2, oEq_int, oEq_str, kSet, kUnp, kRet, kEx, kCons, kCons2, kOp, kTest, kAnd, kOr, kNot, kNotT, kLst, kTup, kCall, kCio, kCit, kCit2, kComp2, kIdx, kMut, kSetix, kSetix2, kSlc, kSlc2, kSlc3, kFor, inits, opSem, oBin, oCmp, oIx, setL, okd, flat, truth, getSlots, upto, bindT, bindTs, wipeE, frzE, retC, freeze1, putSlots, nodupB, oB1, oB2, mutL, isOwnL, big, oMk, oCk, full, fullL, lendE_nil, lendE_cons, lendS_none, lendS_some, s_blk, k_blk, k_blkM, mergeE, s_whl, s_inc, k_incO, k_inc2, kInc2, o_so, k_so, oSlc, ot_so, ot_no, e_callv, t_callv, k_callvS, k_callvL, kCallvR, retN, kChnE, kChnA, kChnB, e_chn, t_chn, k_chnT, k_chnF, kChn3A, kChn3B, kChn3F, e_chn3, t_chn3, k_chn3T, k_chn3F, r_OBr, r_nxE, i_rng3, kR3a, kR3b, kR3c, e_mutp, k_pm3, k_pm2, kPm1, k_pm, s_setp, kSp4, k_sp3, k_sp2, k_sp1, k_sp, pe_k, e_pth, k_pth, k_pth2, oMk, oCk, hat, hat0, ht, lk1, lk2, io_take, io_word, e1, e2, hm, hkn]
      exact ⟨_, _, _, ⟨⟨rfl, rfl⟩, rfl⟩, hww, h1, h2, hd2⟩
  by_cases k5 : kind = 5
  · subst k5
    simp [d3, r_bind_ok, r_res_some, r_OBt, s_nil, s_one, k_nx, k_ret, k_brk, k_cnt, s_kill, s_frz, s_set, s_unp, k_unp, s_ifs, k_ifT, k_ifF, s_fr, s_ret, s_ex, s_setix, s_brk, s_cnt, s_pass, e_var, k_var, e_frz, k_frz, e_mv, k_mv, e_cst, k_cst, c_int, c_bl, c_non, c_str, e_op, a_nil, a_cons, e_lend, t_lend, k_lend, k_lendT, e_and, e_or, e_not, t_and, t_or, t_not, t_op, t_var, t_call, t_cio, t_cst, k_andTT, k_andTF, k_orTT, k_orTF, k_andOT, k_andOF, k_orOT, k_orOF, k_notO, e_lst, e_tup, e_call, e_cio, k_cio, k_out, e_cit, k_cit, e_comp, e_idx, k_idx, e_mut, k_mutS1, k_mutO, k_setS1, k_setO, e_slc, o_no, i_rng1, k_rng1, i_ex, k_itrL, r_fl, at0, at1, at2, oEq_int, oEq_str, kSet, kUnp, kRet, kEx, kCons, kCons2, kOp, kTest, kAnd, kOr, kNot, kNotT, kLst, kTup, kCall, kCio, kCit, kCit2, kComp2, kIdx, kMut, kSetix, kSetix2, kSlc, kSlc2, kSlc3, kFor, inits, opSem, oBin, oCmp, oIx, setL, okd, flat, truth, getSlots, upto, bindT, bindTs, wipeE, frzE, retC, freeze1, putSlots, nodupB, oB1, oB2, mutL, isOwnL, big, oMk, oCk, full, fullL, lendE_nil, lendE_cons, lendS_none, lendS_some, s_blk, k_blk, k_blkM, mergeE, s_whl, s_inc, k_incO, k_inc2, kInc2, o_so, k_so, oSlc, ot_so, ot_no, e_callv, t_callv, k_callvS, k_callvL, kCallvR, retN, kChnE, kChnA, kChnB, e_chn, t_chn, k_chnT, k_chnF, kChn3A, kChn3B, kChn3F, e_chn3, t_chn3, k_chn3T, k_chn3F, r_OBr, r_nxE, i_rng3, kR3a, kR3b, kR3c, e_mutp, k_pm3, k_pm2, kPm1, k_pm, s_setp, kSp4, k_sp3, k_sp2, k_sp1, k_sp, pe_k, e_pth, k_pth, k_pth2, oMk, oCk, hat, hat0, ht, lk1, lk2, io_take, io_word, e1, e2, e3, hm, hg1]
    exact ⟨_, _, _, ⟨⟨rfl, rfl⟩, rfl⟩, hg2 _, h1, h2, hd3⟩
  by_cases k4 : kind = 4
  · subst k4
    by_cases hkn : k ≤ n
    · simp [d3, r_bind_ok, r_res_some, r_OBt, s_nil, s_one, k_nx, k_ret, k_brk, k_cnt, s_kill, s_frz, s_set, s_unp, k_unp, s_ifs, k_ifT, k_ifF, s_fr, s_ret, s_ex, s_setix, s_brk, s_cnt, s_pass, e_var, k_var, e_frz, k_frz, e_mv, k_mv, e_cst, k_cst, c_int, c_bl, c_non, c_str, e_op, a_nil, a_cons, e_lend, t_lend, k_lend, k_lendT, e_and, e_or, e_not, t_and, t_or, t_not, t_op, t_var, t_call, t_cio, t_cst, k_andTT, k_andTF, k_orTT, k_orTF, k_andOT, k_andOF, k_orOT, k_orOF, k_notO, e_lst, e_tup, e_call, e_cio, k_cio, k_out, e_cit, k_cit, e_comp, e_idx, k_idx, e_mut, k_mutS1, k_mutO, k_setS1, k_setO, e_slc, o_no, i_rng1, k_rng1, i_ex, k_itrL, r_fl, at0, at1, at2, oEq_int, oEq_str, kSet, kUnp, kRet, kEx, kCons, kCons2, kOp, kTest, kAnd, kOr, kNot, kNotT, kLst, kTup, kCall, kCio, kCit, kCit2, kComp2, kIdx, kMut, kSetix, kSetix2, kSlc, kSlc2, kSlc3, kFor, inits, opSem, oBin, oCmp, oIx, setL, okd, flat, truth, getSlots, upto, bindT, bindTs, wipeE, frzE, retC, freeze1, putSlots, nodupB, oB1, oB2, mutL, isOwnL, big, oMk, oCk, full, fullL, lendE_nil, lendE_cons, lendS_none, lendS_some, s_blk, k_blk, k_blkM, mergeE, s_whl, s_inc, k_incO, k_inc2, kInc2, o_so, k_so, oSlc, ot_so, ot_no, e_callv, t_callv, k_callvS, k_callvL, kCallvR, retN, kChnE, kChnA, kChnB, e_chn, t_chn, k_chnT, k_chnF, kChn3A, kChn3B, kChn3F, e_chn3, t_chn3, k_chn3T, k_chn3F, r_OBr, r_nxE, i_rng3, kR3a, kR3b, kR3c, e_mutp, k_pm3, k_pm2, kPm1, k_pm, s_setp, kSp4, k_sp3, k_sp2, k_sp1, k_sp, pe_k, e_pth, k_pth, k_pth2, oMk, oCk, hat, hat0, ht, lk1, lk2, io_take, io_word, e1, e2, hm, hkn, hg1, ht0, hmul2]
      exact ⟨_, _, _, ⟨⟨rfl, rfl⟩, rfl⟩, hg2 _, h1, h2, hd2⟩
    · simp [d3, r_bind_ok, r_res_some, r_OBt, s_nil, s_one, k_nx, k_ret, k_brk, k_cnt, s_kill, s_frz, s_set, s_unp, k_unp, s_ifs, k_ifT, k_ifF, s_fr, s_ret, s_ex, s_setix, s_brk, s_cnt, s_pass, e_var, k_var, e_frz, k_frz, e_mv, k_mv, e_cst, k_cst, c_int, c_bl, c_non, c_str, e_op, a_nil, a_cons, e_lend, t_lend, k_lend, k_lendT, e_and, e_or, e_not, t_and, t_or, t_not, t_op, t_var, t_call, t_cio, t_cst, k_andTT, k_andTF, k_orTT, k_orTF, k_andOT, k_andOF, k_orOT, k_orOF, k_notO, e_lst, e_tup, e_call, e_cio, k_cio, k_out, e_cit, k_cit, e_comp, e_idx, k_idx, e_mut, k_mutS1, k_mutO, k_setS1, k_setO, e_slc, o_no, i_rng1, k_rng1, i_ex, k_itrL, r_fl, at0, at1, at2, oEq_int, oEq_str, kSet, kUnp, kRet, kEx, kCons, kCons2, kOp, kTest, kAnd, kOr, kNot, kNotT, kLst, kTup, kCall, kCio, kCit, kCit2, kComp2, kIdx, kMut, kSetix, kSetix2, kSlc, kSlc2, kSlc3, kFor, inits, opSem, oBin, oCmp, oIx, setL, okd, flat, truth, getSlots, upto, bindT, bindTs, wipeE, frzE, retC, freeze1, putSlots, nodupB, oB1, oB2, mutL, isOwnL, big, oMk, oCk, full, fullL, lendE_nil, lendE_cons, lendS_none, lendS_some, s_blk, k_blk, k_blkM, mergeE, s_whl, s_inc, k_incO, k_inc2, kInc2, o_so, k_so, oSlc, ot_so, ot_no, e_callv, t_callv, k_callvS, k_callvL, kCallvR, retN, kChnE, kChnA, kChnB, e_chn, t_chn, k_chnT, k_chnF, kChn3A, kChn3B, kChn3F, e_chn3, t_chn3, k_chn3T, k_chn3F, r_OBr, r_nxE, i_rng3, kR3a, kR3b, kR3c, e_mutp, k_pm3, k_pm2, kPm1, k_pm, s_setp, kSp4, k_sp3, k_sp2, k_sp1, k_sp, pe_k, e_pth, k_pth, k_pth2, oMk, oCk, hat, hat0, ht, lk1, lk2, io_take, io_word, e1, e2, hm, hkn]
      exact ⟨_, _, _, ⟨⟨rfl, rfl⟩, rfl⟩, hww, h1, h2, hd2⟩
  simp [d3, r_bind_ok, r_res_some, r_OBt, s_nil, s_one, k_nx, k_ret, k_brk, k_cnt, s_kill, s_frz, s_set, s_unp, k_unp, s_ifs, k_ifT, k_ifF, s_fr, s_ret, s_ex, s_setix, s_brk, s_cnt, s_pass, e_var, k_var, e_frz, k_frz, e_mv, k_mv, e_cst, k_cst, c_int, c_bl, c_non, c_str, e_op, a_nil, a_cons, e_lend, t_lend, k_lend, k_lendT, e_and, e_or, e_not, t_and, t_or, t_not, t_op, t_var, t_call, t_cio, t_cst, k_andTT, k_andTF, k_orTT, k_orTF, k_andOT, k_andOF, k_orOT, k_orOF, k_notO, e_lst, e_tup, e_call, e_cio, k_cio, k_out, e_cit, k_cit, e_comp, e_idx, k_idx, e_mut, k_mutS1, k_mutO, k_setS1, k_setO, e_slc, o_no, i_rng1, k_rng1, i_ex, k_itrL, r_fl, at0, at1, at2, oEq_int, oEq_str, kSet, kUnp, kRet, kEx, kCons, kCons2, kOp, kTest, kAnd, kOr, kNot, kNotT, kLst, kTup, kCall, kCio, kCit, kCit2, kComp2, kIdx, kMut, kSetix, kSetix2, kSlc, kSlc2, kSlc3, kFor, inits, opSem, oBin, oCmp, oIx, setL, okd, flat, truth, getSlots, upto, bindT, bindTs, wipeE, frzE, retC, freeze1, putSlots, nodupB, oB1, oB2, mutL, isOwnL, big, oMk, oCk, full, fullL, lendE_nil, lendE_cons, lendS_none, lendS_some, s_blk, k_blk, k_blkM, mergeE, s_whl, s_inc, k_incO, k_inc2, kInc2, o_so, k_so, oSlc, ot_so, ot_no, e_callv, t_callv, k_callvS, k_callvL, kCallvR, retN, kChnE, kChnA, kChnB, e_chn, t_chn, k_chnT, k_chnF, kChn3A, kChn3B, kChn3F, e_chn3, t_chn3, k_chn3T, k_chn3F, r_OBr, r_nxE, i_rng3, kR3a, kR3b, kR3c, e_mutp, k_pm3, k_pm2, kPm1, k_pm, s_setp, kSp4, k_sp3, k_sp2, k_sp1, k_sp, pe_k, e_pth, k_pth, k_pth2, oMk, oCk, hat, hat0, ht, lk1, lk2, io_take, io_word, e1, e2, hm, k2, k3, k4, k5]
  exact ⟨_, _, _, ⟨⟨rfl, rfl⟩, rfl⟩, hww, h1, h2, hd2⟩
theorem io_branch : f3.io = 1 := rfl
theorem size_at {k : Int} (h1 : 1 ≤ k) (h2 : k ≤ 3) : L2.atI [D.int 2, D.int 4, D.int 8] (k - 1) = some (D.int (2 ^ k.toNat)) := by
  have : k = 1 ∨ k = 2 ∨ k = 3 := by omega
  rcases this with rfl | rfl | rfl <;> rfl
abbrev env3 (d : D) (k n many kind : Int) (s1 s6 : Pv.Slot) (pool : List (List Nat)) (xs : List D) (s9 s10 s11 s12 : Pv.Slot) : Ev :=
  [some (d, 1), s1, some (.int k, 0), some (.int n, 0), some (.int many, 0), some (.int kind, 0), s6, some (.lst (pool.map .str), 0), some (.lst xs, 1), s9, s10, s11, s12]
theorem inner {d : D} (hd : StoOk d) (k n many kind place : Int) (s1 s6 s11 s12 : Pv.Slot) (pool : List (List Nat)) (xs : List D) (m : Nat) (hm1 : m ≤ 1000) (hn : 1 ≤ n) (hn6 : n ≤ 6) (hm : 0 < many) (hm8 : many ≤ 1000) (hp : pool ≠ []) (hpl : pool.length ≤ 1000) (hw : ∀ w ∈ pool, BitW n.toNat w) :
    ∃ (d' : D) (row : List Br) (s11' : Pv.Slot), floop (.nm 11) (evS (look [f0, f1, f2, f3]) b4_0) (rangeL 0 1 m) (env3 d k n many kind s1 s6 pool xs (some (.int place, 0)) (some (.lst [], 1)) s11 s12) =
      .ok .nx (env3 d' k n many kind s1 s6 pool xs (some (.int place, 0)) (some (.lst (row.map brD), 1)) s11' s12) ∧ row.length = m ∧ (∀ br ∈ row, BrOk n.toNat many.toNat br) ∧ StoOk d' := by
  have lk3 : look [f0, f1, f2, f3] 3 = f3 := rfl
  obtain ⟨env', h2, d', row, s11', rfl, hl, hr, hd'⟩ := floop_inv (t := .nm 11) (b := evS (look [f0, f1, f2, f3]) b4_0) (fun i env => ∃ (d : D) (row : List Br) (s11 : Pv.Slot), env = env3 d k n many kind s1 s6 pool xs (some (.int place, 0)) (some (.lst (row.map brD), 1)) s11 s12 ∧ row.length = i ∧ (∀ br ∈ row, BrOk n.toNat many.toNat br) ∧ StoOk d)
    (ds := rangeL 0 1 m) (env := env3 d k n many kind s1 s6 pool xs (some (.int place, 0)) (some (.lst [], 1)) s11 s12) (k := 0) ⟨d, [], s11, rfl, rfl, (fun _ h => nomatch h), hd⟩ (fun i x env hx ⟨d, row, s11, e, hl, hr, hd⟩ => by
      subst e
      obtain ⟨hi, rfl⟩ := rangeL_get hx
      obtain ⟨w, bh, d', e, hb, hb0, hb1, hd'⟩ := branch_ok hd kind place (0 + (i : Int) * 1) k n many pool hn hn6 hm hm8 hp hpl hw
      have hl2 : (row.map brD).length < 16777216 := by rw [List.length_map]; omega
      refine ⟨_, env3 d' k n many kind s1 s6 pool xs (some (.int place, 0)) (some (.lst ((row ++ [(w, bh)]).map brD), 1)) (some (.int (0 + (i : Int) * 1), 0)) s12, rfl, .inl ?_, d', row ++ [(w, bh)], _, rfl, by simp; omega, fun br h => ?_, hd'⟩
      · rw [List.map_append, List.map_cons, List.map_nil]
        simp only [env3]
        generalize row.map brD = RW at *
        generalize (0 + (i : Int) * 1) = ii at *
        generalize pool.map D.str = PL at *
        simp [b4_0, r_bind_ok, r_res_some, r_OBt, s_nil, s_one, k_nx, k_ret, k_brk, k_cnt, s_kill, s_frz, s_set, s_unp, k_unp, s_ifs, k_ifT, k_ifF, s_fr, s_ret, s_ex, s_setix, s_brk, s_cnt, s_pass, e_var, k_var, e_frz, k_frz, e_mv, k_mv, e_cst, k_cst, c_int, c_bl, c_non, c_str, e_op, a_nil, a_cons, e_lend, t_lend, k_lend, k_lendT, e_and, e_or, e_not, t_and, t_or, t_not, t_op, t_var, t_call, t_cio, t_cst, k_andTT, k_andTF, k_orTT, k_orTF, k_andOT, k_andOF, k_orOT, k_orOF, k_notO, e_lst, e_tup, e_call, e_cio, k_cio, k_out, e_cit, k_cit, e_comp, e_idx, k_idx, e_mut, k_mutS1, k_mutO, k_setS1, k_setO, e_slc, o_no, i_rng1, k_rng1, i_ex, k_itrL, r_fl, at0, at1, at2, oEq_int, oEq_str, kSet, kUnp, kRet, kEx, kCons, kCons2, kOp, kTest, kAnd, kOr, kNot, kNotT, kLst, kTup, kCall, kCio, kCit, kCit2, kComp2, kIdx, kMut, kSetix, kSetix2, kSlc, kSlc2, kSlc3, kFor, inits, opSem, oBin, oCmp, oIx, setL, okd, flat, truth, getSlots, upto, bindT, bindTs, wipeE, frzE, retC, freeze1, putSlots, nodupB, oB1, oB2, mutL, isOwnL, big, oMk, oCk, full, fullL, lendE_nil, lendE_cons, lendS_none, lendS_some, s_blk, k_blk, k_blkM, mergeE, s_whl, s_inc, k_incO, k_inc2, kInc2, o_so, k_so, oSlc, ot_so, ot_no, e_callv, t_callv, k_callvS, k_callvL, kCallvR, retN, kChnE, kChnA, kChnB, e_chn, t_chn, k_chnT, k_chnF, kChn3A, kChn3B, kChn3F, e_chn3, t_chn3, k_chn3T, k_chn3F, r_OBr, r_nxE, i_rng3, kR3a, kR3b, kR3c, e_mutp, k_pm3, k_pm2, kPm1, k_pm, s_setp, kSp4, k_sp3, k_sp2, k_sp1, k_sp, pe_k, e_pth, k_pth, k_pth2, lk3, io_branch, e, hl2, brD]
      · rcases List.mem_append.mp h with z | z
        · exact hr br z
        · rw [List.mem_singleton.mp z]; exact ⟨hb, hb0, by show bh < (many.toNat : Int); omega⟩)
  exact ⟨d', row, s11', h2, by rw [hl, rangeL_len]; omega, hr, hd'⟩
theorem outer {d : D} (hd : StoOk d) (k n many kind : Int) (s1 s6 s9 s10 s11 s12 : Pv.Slot) (pool : List (List Nat)) (m : Nat) (hm1 : m ≤ 1000) (hk : 1 ≤ k) (hk3 : k ≤ 3) (hn : 1 ≤ n) (hn6 : n ≤ 6) (hm : 0 < many) (hm8 : many ≤ 1000) (hp : pool ≠ []) (hpl : pool.length ≤ 1000) (hw : ∀ w ∈ pool, BitW n.toNat w) :
    ∃ (d' : D) (states : List (List Br)) (s9' s10' s11' : Pv.Slot), floop (.nm 9) (evS (look [f0, f1, f2, f3]) b4_1) (rangeL 0 1 m) (env3 d k n many kind s1 s6 pool [] s9 s10 s11 s12) =
      .ok .nx (env3 d' k n many kind s1 s6 pool (states.map stD) s9' s10' s11' s12) ∧ states.length = m ∧ (∀ st ∈ states, st.length = 2 ^ k.toNat ∧ ∀ p ∈ st, BrOk n.toNat many.toNat p) ∧ StoOk d' := by
  have hsz := size_at hk hk3
  have szn : ((2 : Int) ^ k.toNat).toNat = 2 ^ k.toNat ∧ 0 ≤ (2 : Int) ^ k.toNat ∧ (2 : Int) ^ k.toNat ≤ 8 := by
    have : k = 1 ∨ k = 2 ∨ k = 3 := by omega
    rcases this with rfl | rfl | rfl <;> exact ⟨by decide, by decide, by decide⟩
  obtain ⟨sz1, sz2, sz3⟩ := szn
  obtain ⟨env', h2, d', states, s9', s10', s11', rfl, hl, hr, hd'⟩ := floop_inv (t := .nm 9) (b := evS (look [f0, f1, f2, f3]) b4_1) (fun i env => ∃ (d : D) (states : List (List Br)) (s9 s10 s11 : Pv.Slot), env = env3 d k n many kind s1 s6 pool (states.map stD) s9 s10 s11 s12 ∧ states.length = i ∧ (∀ st ∈ states, st.length = 2 ^ k.toNat ∧ ∀ p ∈ st, BrOk n.toNat many.toNat p) ∧ StoOk d)
    (ds := rangeL 0 1 m) (env := env3 d k n many kind s1 s6 pool [] s9 s10 s11 s12) (k := 0) ⟨d, [], s9, s10, s11, rfl, rfl, (fun _ h => nomatch h), hd⟩ (fun i x env hx ⟨d, states, s9, s10, s11, e, hl, hr, hd⟩ => by
      subst e
      obtain ⟨hi, rfl⟩ := rangeL_get hx
      obtain ⟨d', row, s11', e, hrl, hrr, hd'⟩ := inner hd k n many kind (0 + (i : Int) * 1) s1 s6 s11 s12 pool (states.map stD) (2 ^ k.toNat) (by omega) hn hn6 hm hm8 hp hpl hw
      rw [← sz1] at e
      have hl2 : (states.map stD).length < 16777216 := by rw [List.length_map]; omega
      have hz1 : -4611686018427387904 ≤ (2 : Int) ^ k.toNat := by omega
      have hz2 : (2 : Int) ^ k.toNat ≤ 16777216 := by omega
      refine ⟨_, env3 d' k n many kind s1 s6 pool ((states ++ [row]).map stD) (some (.int (0 + (i : Int) * 1), 0)) (some (stD row, 0)) s11' s12, rfl, .inl ?_, d', states ++ [row], _, _, _, rfl, by simp; omega, fun st h => ?_, hd'⟩
      · rw [List.map_append, List.map_cons, List.map_nil, show stD row = .lst (row.map brD) from rfl]
        simp only [env3] at e ⊢
        generalize (2 : Int) ^ k.toNat = P at *
        generalize row.map brD = RW at *
        generalize states.map stD = SS at *
        generalize (0 + (i : Int) * 1) = ii at *
        generalize pool.map D.str = PL at *
        simp [b4_1, r_bind_ok, r_res_some, r_OBt, s_nil, s_one, k_nx, k_ret, k_brk, k_cnt, s_kill, s_frz, s_set, s_unp, k_unp, s_ifs, k_ifT, k_ifF, s_fr, s_ret, s_ex, s_setix, s_brk, s_cnt, s_pass, e_var, k_var, e_frz, k_frz, e_mv, k_mv, e_cst, k_cst, c_int, c_bl, c_non, c_str, e_op, a_nil, a_cons, e_lend, t_lend, k_lend, k_lendT, e_and, e_or, e_not, t_and, t_or, t_not, t_op, t_var, t_call, t_cio, t_cst, k_andTT, k_andTF, k_orTT, k_orTF, k_andOT, k_andOF, k_orOT, k_orOF, k_notO, e_lst, e_tup, e_call, e_cio, k_cio, k_out, e_cit, k_cit, e_comp, e_idx, k_idx, e_mut, k_mutS1, k_mutO, k_setS1, k_setO, e_slc, o_no, i_rng1, k_rng1, i_ex, k_itrL, r_fl, at0, at1, at2, oEq_int, oEq_str, kSet, kUnp, kRet, kEx, kCons, kCons2, kOp, kTest, kAnd, kOr, kNot, kNotT, kLst, kTup, kCall, kCio, kCit, kCit2, kComp2, kIdx, kMut, kSetix, kSetix2, kSlc, kSlc2, kSlc3, kFor, inits, opSem, oBin, oCmp, oIx, setL, okd, flat, truth, getSlots, upto, bindT, bindTs, wipeE, frzE, retC, freeze1, putSlots, nodupB, oB1, oB2, mutL, isOwnL, big, oMk, oCk, full, fullL, lendE_nil, lendE_cons, lendS_none, lendS_some, s_blk, k_blk, k_blkM, mergeE, s_whl, s_inc, k_incO, k_inc2, kInc2, o_so, k_so, oSlc, ot_so, ot_no, e_callv, t_callv, k_callvS, k_callvL, kCallvR, retN, kChnE, kChnA, kChnB, e_chn, t_chn, k_chnT, k_chnF, kChn3A, kChn3B, kChn3F, e_chn3, t_chn3, k_chn3T, k_chn3F, r_OBr, r_nxE, i_rng3, kR3a, kR3b, kR3c, e_mutp, k_pm3, k_pm2, kPm1, k_pm, s_setp, kSp4, k_sp3, k_sp2, k_sp1, k_sp, pe_k, e_pth, k_pth, k_pth2, hsz, hz1, hz2, e, hl2]
      · rcases List.mem_append.mp h with z | z
        · exact hr st z
        · rw [List.mem_singleton.mp z]; exact ⟨hrl, hrr⟩)
  exact ⟨d', states, s9', s10', s11', h2, by rw [hl, rangeL_len]; omega, hr, hd'⟩
abbrev elt0 : E := .call 2 (.cons (.cio 1 [0] (.cons (.var 6) .nil)) (.cons (.var 3) .nil))
theorem kind_at {r : Int} (h1 : 0 ≤ r) (h2 : r < 6) : ∃ t : Int, L2.atI [D.int 1, D.int 1, D.int 1, D.int 2, D.int 2, D.int 3] r = some (D.int t) ∧ 1 ≤ t ∧ t ≤ 3 := by
  have : r = 0 ∨ r = 1 ∨ r = 2 ∨ r = 3 ∨ r = 4 ∨ r = 5 := by omega
  rcases this with rfl | rfl | rfl | rfl | rfl | rfl
  · exact ⟨1, rfl, by decide, by decide⟩
  · exact ⟨1, rfl, by decide, by decide⟩
  · exact ⟨1, rfl, by decide, by decide⟩
  · exact ⟨2, rfl, by decide, by decide⟩
  · exact ⟨2, rfl, by decide, by decide⟩
  · exact ⟨3, rfl, by decide, by decide⟩
theorem code_ok {d : D} (hd : StoOk d) {most : Int} (m1 : 1 ≤ most) (m8 : most ≤ 8) : ∃ (k n : Int) (states : List (List Br)) (d' : D), f4.F [(d, 1), (.int most, 0)] = .ok (cdD k n states) 1 [(d', 1)] ∧ Code k n states ∧ states.length ≤ most ∧ StoOk d' := by
  have lk1 : look [f0, f1, f2, f3] 1 = f1 := rfl
  have lk2 : look [f0, f1, f2, f3] 2 = f2 := rfl
  obtain ⟨r1, dk1, e1, h1, h2, hd1⟩ := tk hd (m := 6) (by omega) (by omega)
  obtain ⟨k, hk, hk1, hk3⟩ := kind_at h1 h2
  obtain ⟨r2, dk2, e2, h3, h4, hd2⟩ := tk hd1 (m := 6) (by omega) (by omega)
  obtain ⟨r3, dk3, e3, h5, h6, hd3⟩ := tk hd2 (m := most) (by omega) (by omega)
  obtain ⟨r4, dk4, e4, h7, h8, hd4⟩ := tk hd3 (m := 6) (by omega) (by omega)
  obtain ⟨top, htop, ht0, ht64⟩ := pow_at (n := 1 + r2) (by omega) (by omega)
  obtain ⟨r5, dk5, e5, h9, h10, hd5⟩ := tk hd4 (m := 5) (by omega) (by omega)
  obtain ⟨ys, env', e6, ⟨dk6, rfl, hd6⟩, hpl, hy⟩ := kcomp_st (ρ := look [f0, f1, f2, f3]) (n := 0) (own := [12]) (t := .nm 12) (e := elt0) (env := [some (dk5, 1), some (.int most, 0), some (.int k, 0), some (.int (1 + r2), 0), some (.int (1 + r3), 0), some (.int r4, 0), some (.int top, 0), none, none, none, none, none, none])
    (fun env => ∃ d : D, env = [some (d, 1), some (.int most, 0), some (.int k, 0), some (.int (1 + r2), 0), some (.int (1 + r3), 0), some (.int r4, 0), some (.int top, 0), none, none, none, none, none, none] ∧ StoOk d) (fun y => ∃ w, y = .str w ∧ BitW (1 + r2).toNat w) (rangeL 0 1 (1 + r5).toNat) rfl ⟨dk5, rfl, hd5⟩ fun x hx env' ⟨d, e, hd⟩ => by
      subst e
      obtain ⟨i, hi, rfl⟩ := mem_rangeL hx
      obtain ⟨r, dk7, q, p1, p2, hd7⟩ := tk hd (m := top) ht0 (by omega)
      obtain ⟨w, q2, hw⟩ := word_ok r (1 + r2) (by omega) (by omega)
      refine ⟨_, (.str w, 0), [some (dk7, 1), some (.int most, 0), some (.int k, 0), some (.int (1 + r2), 0), some (.int (1 + r3), 0), some (.int r4, 0), some (.int top, 0), none, none, none, none, none, some (.int (i : Int), 0)], rfl, ?_, rfl, ⟨w, rfl, hw⟩, dk7, rfl, hd7⟩
      simp [wipeE, r_bind_ok, r_res_some, r_OBt, s_nil, s_one, k_nx, k_ret, k_brk, k_cnt, s_kill, s_frz, s_set, s_unp, k_unp, s_ifs, k_ifT, k_ifF, s_fr, s_ret, s_ex, s_setix, s_brk, s_cnt, s_pass, e_var, k_var, e_frz, k_frz, e_mv, k_mv, e_cst, k_cst, c_int, c_bl, c_non, c_str, e_op, a_nil, a_cons, e_lend, t_lend, k_lend, k_lendT, e_and, e_or, e_not, t_and, t_or, t_not, t_op, t_var, t_call, t_cio, t_cst, k_andTT, k_andTF, k_orTT, k_orTF, k_andOT, k_andOF, k_orOT, k_orOF, k_notO, e_lst, e_tup, e_call, e_cio, k_cio, k_out, e_cit, k_cit, e_comp, e_idx, k_idx, e_mut, k_mutS1, k_mutO, k_setS1, k_setO, e_slc, o_no, i_rng1, k_rng1, i_ex, k_itrL, r_fl, at0, at1, at2, oEq_int, oEq_str, kSet, kUnp, kRet, kEx, kCons, kCons2, kOp, kTest, kAnd, kOr, kNot, kNotT, kLst, kTup, kCall, kCio, kCit, kCit2, kComp2, kIdx, kMut, kSetix, kSetix2, kSlc, kSlc2, kSlc3, kFor, inits, opSem, oBin, oCmp, oIx, setL, okd, flat, truth, getSlots, upto, bindT, bindTs, wipeE, frzE, retC, freeze1, putSlots, nodupB, oB1, oB2, mutL, isOwnL, big, oMk, oCk, full, fullL, lendE_nil, lendE_cons, lendS_none, lendS_some, s_blk, k_blk, k_blkM, mergeE, s_whl, s_inc, k_incO, k_inc2, kInc2, o_so, k_so, oSlc, ot_so, ot_no, e_callv, t_callv, k_callvS, k_callvL, kCallvR, retN, kChnE, kChnA, kChnB, e_chn, t_chn, k_chnT, k_chnF, kChn3A, kChn3B, kChn3F, e_chn3, t_chn3, k_chn3T, k_chn3F, r_OBr, r_nxE, i_rng3, kR3a, kR3b, kR3c, e_mutp, k_pm3, k_pm2, kPm1, k_pm, s_setp, kSp4, k_sp3, k_sp2, k_sp1, k_sp, pe_k, e_pth, k_pth, k_pth2, lk1, lk2, io_take, io_word, q, q2]
  obtain ⟨pool, rfl, hpw⟩ := strs_of hy
  rw [List.length_map, rangeL_len] at hpl
  have hp : pool ≠ [] := fun z => by rw [z] at hpl; simp at hpl; omega
  obtain ⟨dk7, states, s9, s10, s11, e7, hsl, hst, hd7⟩ := outer hd6 k (1 + r2) (1 + r3) r4 (some (.int most, 0)) (some (.int top, 0)) none none none none pool (1 + r3).toNat (by omega) hk1 hk3 (by omega) (by omega) (by omega) (by omega) hp (by omega) hpw
  refine ⟨k, 1 + r2, states, dk7, ?_, ⟨hk1, hk3, by omega, by omega, by omega, by omega, fun st h => (hst st h).1, fun st h p hp => by rw [hsl]; exact (hst st h).2 p hp⟩, by omega, hd7⟩
  have hz1 : -4611686018427387904 ≤ 1 + r5 := by omega
  have hz2 : 1 + r5 ≤ 16777216 := by omega
  have hz3 : -4611686018427387904 ≤ 1 + r3 := by omega
  have hz4 : 1 + r3 ≤ 16777216 := by omega
  unfold f4
  rw [r_runF rfl]
  simp only [env3, elt0] at e6 e7
  simp [d4, r_bind_ok, r_res_some, r_OBt, s_nil, s_one, k_nx, k_ret, k_brk, k_cnt, s_kill, s_frz, s_set, s_unp, k_unp, s_ifs, k_ifT, k_ifF, s_fr, s_ret, s_ex, s_setix, s_brk, s_cnt, s_pass, e_var, k_var, e_frz, k_frz, e_mv, k_mv, e_cst, k_cst, c_int, c_bl, c_non, c_str, e_op, a_nil, a_cons, e_lend, t_lend, k_lend, k_lendT, e_and, e_or, e_not, t_and, t_or, t_not, t_op, t_var, t_call, t_cio, t_cst, k_andTT, k_andTF, k_orTT, k_orTF, k_andOT, k_andOF, k_orOT, k_orOF, k_notO, e_lst, e_tup, e_call, e_cio, k_cio, k_out, e_cit, k_cit, e_comp, e_idx, k_idx, e_mut, k_mutS1, k_mutO, k_setS1, k_setO, e_slc, o_no, i_rng1, k_rng1, i_ex, k_itrL, r_fl, at0, at1, at2, oEq_int, oEq_str, kSet, kUnp, kRet, kEx, kCons, kCons2, kOp, kTest, kAnd, kOr, kNot, kNotT, kLst, kTup, kCall, kCio, kCit, kCit2, kComp2, kIdx, kMut, kSetix, kSetix2, kSlc, kSlc2, kSlc3, kFor, inits, opSem, oBin, oCmp, oIx, setL, okd, flat, truth, getSlots, upto, bindT, bindTs, wipeE, frzE, retC, freeze1, putSlots, nodupB, oB1, oB2, mutL, isOwnL, big, oMk, oCk, full, fullL, lendE_nil, lendE_cons, lendS_none, lendS_some, s_blk, k_blk, k_blkM, mergeE, s_whl, s_inc, k_incO, k_inc2, kInc2, o_so, k_so, oSlc, ot_so, ot_no, e_callv, t_callv, k_callvS, k_callvL, kCallvR, retN, kChnE, kChnA, kChnB, e_chn, t_chn, k_chnT, k_chnF, kChn3A, kChn3B, kChn3F, e_chn3, t_chn3, k_chn3T, k_chn3F, r_OBr, r_nxE, i_rng3, kR3a, kR3b, kR3c, e_mutp, k_pm3, k_pm2, kPm1, k_pm, s_setp, kSp4, k_sp3, k_sp2, k_sp1, k_sp, pe_k, e_pth, k_pth, k_pth2, lk1, lk2, io_take, e1, e2, e3, e4, e5, hk, htop, hz1, hz2, hz3, hz4, e6, e7, cdD]
theorem io_code : f4.io = 1 := rfl
theorem store_ok (x : Int) : ∃ d, f0.F [(.int x, 0)] = .ok d 1 [] ∧ StoOk d := by
  by_cases h : 1000000000000000000 ≤ x
  · refine ⟨.lst [.int x, .int (x % 2147483629), .int 1], ?_, _, _, _, rfl⟩
    unfold f0
    rw [r_runF rfl]
    simp [d0, r_bind_ok, r_res_some, r_OBt, s_nil, s_one, k_nx, k_ret, k_brk, k_cnt, s_kill, s_frz, s_set, s_unp, k_unp, s_ifs, k_ifT, k_ifF, s_fr, s_ret, s_ex, s_setix, s_brk, s_cnt, s_pass, e_var, k_var, e_frz, k_frz, e_mv, k_mv, e_cst, k_cst, c_int, c_bl, c_non, c_str, e_op, a_nil, a_cons, e_lend, t_lend, k_lend, k_lendT, e_and, e_or, e_not, t_and, t_or, t_not, t_op, t_var, t_call, t_cio, t_cst, k_andTT, k_andTF, k_orTT, k_orTF, k_andOT, k_andOF, k_orOT, k_orOF, k_notO, e_lst, e_tup, e_call, e_cio, k_cio, k_out, e_cit, k_cit, e_comp, e_idx, k_idx, e_mut, k_mutS1, k_mutO, k_setS1, k_setO, e_slc, o_no, i_rng1, k_rng1, i_ex, k_itrL, r_fl, at0, at1, at2, oEq_int, oEq_str, kSet, kUnp, kRet, kEx, kCons, kCons2, kOp, kTest, kAnd, kOr, kNot, kNotT, kLst, kTup, kCall, kCio, kCit, kCit2, kComp2, kIdx, kMut, kSetix, kSetix2, kSlc, kSlc2, kSlc3, kFor, inits, opSem, oBin, oCmp, oIx, setL, okd, flat, truth, getSlots, upto, bindT, bindTs, wipeE, frzE, retC, freeze1, putSlots, nodupB, oB1, oB2, mutL, isOwnL, big, oMk, oCk, full, fullL, lendE_nil, lendE_cons, lendS_none, lendS_some, s_blk, k_blk, k_blkM, mergeE, s_whl, s_inc, k_incO, k_inc2, kInc2, o_so, k_so, oSlc, ot_so, ot_no, e_callv, t_callv, k_callvS, k_callvL, kCallvR, retN, kChnE, kChnA, kChnB, e_chn, t_chn, k_chnT, k_chnF, kChn3A, kChn3B, kChn3F, e_chn3, t_chn3, k_chn3T, k_chn3F, r_OBr, r_nxE, i_rng3, kR3a, kR3b, kR3c, e_mutp, k_pm3, k_pm2, kPm1, k_pm, s_setp, kSp4, k_sp3, k_sp2, k_sp1, k_sp, pe_k, e_pth, k_pth, k_pth2, h]
  · refine ⟨.lst [.int 0, .int (x % 2147483629), .int 1], ?_, _, _, _, rfl⟩
    unfold f0
    rw [r_runF rfl]
    simp [d0, r_bind_ok, r_res_some, r_OBt, s_nil, s_one, k_nx, k_ret, k_brk, k_cnt, s_kill, s_frz, s_set, s_unp, k_unp, s_ifs, k_ifT, k_ifF, s_fr, s_ret, s_ex, s_setix, s_brk, s_cnt, s_pass, e_var, k_var, e_frz, k_frz, e_mv, k_mv, e_cst, k_cst, c_int, c_bl, c_non, c_str, e_op, a_nil, a_cons, e_lend, t_lend, k_lend, k_lendT, e_and, e_or, e_not, t_and, t_or, t_not, t_op, t_var, t_call, t_cio, t_cst, k_andTT, k_andTF, k_orTT, k_orTF, k_andOT, k_andOF, k_orOT, k_orOF, k_notO, e_lst, e_tup, e_call, e_cio, k_cio, k_out, e_cit, k_cit, e_comp, e_idx, k_idx, e_mut, k_mutS1, k_mutO, k_setS1, k_setO, e_slc, o_no, i_rng1, k_rng1, i_ex, k_itrL, r_fl, at0, at1, at2, oEq_int, oEq_str, kSet, kUnp, kRet, kEx, kCons, kCons2, kOp, kTest, kAnd, kOr, kNot, kNotT, kLst, kTup, kCall, kCio, kCit, kCit2, kComp2, kIdx, kMut, kSetix, kSetix2, kSlc, kSlc2, kSlc3, kFor, inits, opSem, oBin, oCmp, oIx, setL, okd, flat, truth, getSlots, upto, bindT, bindTs, wipeE, frzE, retC, freeze1, putSlots, nodupB, oB1, oB2, mutL, isOwnL, big, oMk, oCk, full, fullL, lendE_nil, lendE_cons, lendS_none, lendS_some, s_blk, k_blk, k_blkM, mergeE, s_whl, s_inc, k_incO, k_inc2, kInc2, o_so, k_so, oSlc, ot_so, ot_no, e_callv, t_callv, k_callvS, k_callvL, kCallvR, retN, kChnE, kChnA, kChnB, e_chn, t_chn, k_chnT, k_chnF, kChn3A, kChn3B, kChn3F, e_chn3, t_chn3, k_chn3T, k_chn3F, r_OBr, r_nxE, i_rng3, kR3a, kR3b, kR3c, e_mutp, k_pm3, k_pm2, kPm1, k_pm, s_setp, kSp4, k_sp3, k_sp2, k_sp1, k_sp, pe_k, e_pth, k_pth, k_pth2, h]
theorem io_store : f0.io = 0 := rfl
theorem io_cell : f14.io = 0 := rfl
theorem cell_ok (ns : List Int) (k : Int) (h0 : 0 ≤ k) (h1 : k < 1000) : ∃ x : Int, f14.F [(.scr (ns.map .int), 0), (.int k, 0)] = .ok (.int x) 0 [] := by
  unfold f14
  rw [r_runF rfl]
  by_cases h : k < ns.length
  · obtain ⟨d, hd, e⟩ := at_ok (ds := ns.map D.int) h0 (by simpa using h)
    obtain ⟨x, _, rfl⟩ := List.mem_map.mp hd
    simp [d14, r_bind_ok, r_res_some, r_OBt, s_nil, s_one, k_nx, k_ret, k_brk, k_cnt, s_kill, s_frz, s_set, s_unp, k_unp, s_ifs, k_ifT, k_ifF, s_fr, s_ret, s_ex, s_setix, s_brk, s_cnt, s_pass, e_var, k_var, e_frz, k_frz, e_mv, k_mv, e_cst, k_cst, c_int, c_bl, c_non, c_str, e_op, a_nil, a_cons, e_lend, t_lend, k_lend, k_lendT, e_and, e_or, e_not, t_and, t_or, t_not, t_op, t_var, t_call, t_cio, t_cst, k_andTT, k_andTF, k_orTT, k_orTF, k_andOT, k_andOF, k_orOT, k_orOF, k_notO, e_lst, e_tup, e_call, e_cio, k_cio, k_out, e_cit, k_cit, e_comp, e_idx, k_idx, e_mut, k_mutS1, k_mutO, k_setS1, k_setO, e_slc, o_no, i_rng1, k_rng1, i_ex, k_itrL, r_fl, at0, at1, at2, oEq_int, oEq_str, kSet, kUnp, kRet, kEx, kCons, kCons2, kOp, kTest, kAnd, kOr, kNot, kNotT, kLst, kTup, kCall, kCio, kCit, kCit2, kComp2, kIdx, kMut, kSetix, kSetix2, kSlc, kSlc2, kSlc3, kFor, inits, opSem, oBin, oCmp, oIx, setL, okd, flat, truth, getSlots, upto, bindT, bindTs, wipeE, frzE, retC, freeze1, putSlots, nodupB, oB1, oB2, mutL, isOwnL, big, oMk, oCk, full, fullL, lendE_nil, lendE_cons, lendS_none, lendS_some, s_blk, k_blk, k_blkM, mergeE, s_whl, s_inc, k_incO, k_inc2, kInc2, o_so, k_so, oSlc, ot_so, ot_no, e_callv, t_callv, k_callvS, k_callvL, kCallvR, retN, kChnE, kChnA, kChnB, e_chn, t_chn, k_chnT, k_chnF, kChn3A, kChn3B, kChn3F, e_chn3, t_chn3, k_chn3T, k_chn3F, r_OBr, r_nxE, i_rng3, kR3a, kR3b, kR3c, e_mutp, k_pm3, k_pm2, kPm1, k_pm, s_setp, kSp4, k_sp3, k_sp2, k_sp1, k_sp, pe_k, e_pth, k_pth, k_pth2, h, e]
  · have q : (-18446744073709551616 < 7 * k ∧ 7 * k < 18446744073709551616) ∨ (-18446744073709551616 < k ∧ k < 18446744073709551616) := .inr (by omega)
    simp [d14, r_bind_ok, r_res_some, r_OBt, s_nil, s_one, k_nx, k_ret, k_brk, k_cnt, s_kill, s_frz, s_set, s_unp, k_unp, s_ifs, k_ifT, k_ifF, s_fr, s_ret, s_ex, s_setix, s_brk, s_cnt, s_pass, e_var, k_var, e_frz, k_frz, e_mv, k_mv, e_cst, k_cst, c_int, c_bl, c_non, c_str, e_op, a_nil, a_cons, e_lend, t_lend, k_lend, k_lendT, e_and, e_or, e_not, t_and, t_or, t_not, t_op, t_var, t_call, t_cio, t_cst, k_andTT, k_andTF, k_orTT, k_orTF, k_andOT, k_andOF, k_orOT, k_orOF, k_notO, e_lst, e_tup, e_call, e_cio, k_cio, k_out, e_cit, k_cit, e_comp, e_idx, k_idx, e_mut, k_mutS1, k_mutO, k_setS1, k_setO, e_slc, o_no, i_rng1, k_rng1, i_ex, k_itrL, r_fl, at0, at1, at2, oEq_int, oEq_str, kSet, kUnp, kRet, kEx, kCons, kCons2, kOp, kTest, kAnd, kOr, kNot, kNotT, kLst, kTup, kCall, kCio, kCit, kCit2, kComp2, kIdx, kMut, kSetix, kSetix2, kSlc, kSlc2, kSlc3, kFor, inits, opSem, oBin, oCmp, oIx, setL, okd, flat, truth, getSlots, upto, bindT, bindTs, wipeE, frzE, retC, freeze1, putSlots, nodupB, oB1, oB2, mutL, isOwnL, big, oMk, oCk, full, fullL, lendE_nil, lendE_cons, lendS_none, lendS_some, s_blk, k_blk, k_blkM, mergeE, s_whl, s_inc, k_incO, k_inc2, kInc2, o_so, k_so, oSlc, ot_so, ot_no, e_callv, t_callv, k_callvS, k_callvL, kCallvR, retN, kChnE, kChnA, kChnB, e_chn, t_chn, k_chnT, k_chnF, kChn3A, kChn3B, kChn3F, e_chn3, t_chn3, k_chn3T, k_chn3F, r_OBr, r_nxE, i_rng3, kR3a, kR3b, kR3c, e_mutp, k_pm3, k_pm2, kPm1, k_pm, s_setp, kSp4, k_sp3, k_sp2, k_sp1, k_sp, pe_k, e_pth, k_pth, k_pth2, h, q]
/-! ### is_whole, letters, bits, sent, is_code -/
theorem ty_int (i : Int) : tyName (.int i) = some "int" := rfl
theorem ty_str (s : List Nat) : tyName (.str s) = some "str" := rfl
theorem ty_lst (s : List D) : tyName (.lst s) = some "list" := rfl
theorem ty_tup (s : List D) : tyName (.tup s) = some "tuple" := rfl
theorem tk_int : tyOk "int" = true := rfl
theorem tk_bool : tyOk "bool" = true := rfl
theorem tk_str : tyOk "str" = true := rfl
theorem tk_list : tyOk "list" = true := rfl
theorem tk_tuple : tyOk "tuple" = true := rfl
theorem is_ii : isTy "int" "int" = true := rfl
theorem is_ib : isTy "int" "bool" = false := rfl
theorem is_ss : isTy "str" "str" = true := rfl
theorem is_ll : isTy "list" "list" = true := rfl
theorem is_tt : isTy "tuple" "tuple" = true := rfl
theorem oEq_nil : oEq (.lst []) (.lst []) = some true := (oEq_ils [] []).trans (congrArg some (decide_eq_true rfl))
theorem whole_ok (i a b : Int) : f7.F [(.int i, 0), (.int a, 0), (.int b, 0)] = .ok (.bl (decide (a ≤ i ∧ i ≤ b))) 0 [] := by
  unfold f7
  rw [r_runF rfl]
  by_cases h1 : a ≤ i
  · by_cases h2 : i ≤ b
    · simp [d7, r_bind_ok, r_res_some, r_OBt, s_nil, s_one, k_nx, k_ret, k_brk, k_cnt, s_kill, s_frz, s_set, s_unp, k_unp, s_ifs, k_ifT, k_ifF, s_fr, s_ret, s_ex, s_setix, s_brk, s_cnt, s_pass, e_var, k_var, e_frz, k_frz, e_mv, k_mv, e_cst, k_cst, c_int, c_bl, c_non, c_str, e_op, a_nil, a_cons, e_lend, t_lend, k_lend, k_lendT, e_and, e_or, e_not, t_and, t_or, t_not, t_op, t_var, t_call, t_cio, t_cst, k_andTT, k_andTF, k_orTT, k_orTF, k_andOT, k_andOF, k_orOT, k_orOF, k_notO, e_lst, e_tup, e_call, e_cio, k_cio, k_out, e_cit, k_cit, e_comp, e_idx, k_idx, e_mut, k_mutS1, k_mutO, k_setS1, k_setO, e_slc, o_no, i_rng1, k_rng1, i_ex, k_itrL, r_fl, at0, at1, at2, oEq_int, oEq_str, kSet, kUnp, kRet, kEx, kCons, kCons2, kOp, kTest, kAnd, kOr, kNot, kNotT, kLst, kTup, kCall, kCio, kCit, kCit2, kComp2, kIdx, kMut, kSetix, kSetix2, kSlc, kSlc2, kSlc3, kFor, inits, opSem, oBin, oCmp, oIx, setL, okd, flat, truth, getSlots, upto, bindT, bindTs, wipeE, frzE, retC, freeze1, putSlots, nodupB, oB1, oB2, mutL, isOwnL, big, oMk, oCk, full, fullL, lendE_nil, lendE_cons, lendS_none, lendS_some, s_blk, k_blk, k_blkM, mergeE, s_whl, s_inc, k_incO, k_inc2, kInc2, o_so, k_so, oSlc, ot_so, ot_no, e_callv, t_callv, k_callvS, k_callvL, kCallvR, retN, kChnE, kChnA, kChnB, e_chn, t_chn, k_chnT, k_chnF, kChn3A, kChn3B, kChn3F, e_chn3, t_chn3, k_chn3T, k_chn3F, r_OBr, r_nxE, i_rng3, kR3a, kR3b, kR3c, e_mutp, k_pm3, k_pm2, kPm1, k_pm, s_setp, kSp4, k_sp3, k_sp2, k_sp1, k_sp, pe_k, e_pth, k_pth, k_pth2, ty_int, tk_int, tk_bool, is_ii, is_ib, h1, h2]
    · simp [d7, r_bind_ok, r_res_some, r_OBt, s_nil, s_one, k_nx, k_ret, k_brk, k_cnt, s_kill, s_frz, s_set, s_unp, k_unp, s_ifs, k_ifT, k_ifF, s_fr, s_ret, s_ex, s_setix, s_brk, s_cnt, s_pass, e_var, k_var, e_frz, k_frz, e_mv, k_mv, e_cst, k_cst, c_int, c_bl, c_non, c_str, e_op, a_nil, a_cons, e_lend, t_lend, k_lend, k_lendT, e_and, e_or, e_not, t_and, t_or, t_not, t_op, t_var, t_call, t_cio, t_cst, k_andTT, k_andTF, k_orTT, k_orTF, k_andOT, k_andOF, k_orOT, k_orOF, k_notO, e_lst, e_tup, e_call, e_cio, k_cio, k_out, e_cit, k_cit, e_comp, e_idx, k_idx, e_mut, k_mutS1, k_mutO, k_setS1, k_setO, e_slc, o_no, i_rng1, k_rng1, i_ex, k_itrL, r_fl, at0, at1, at2, oEq_int, oEq_str, kSet, kUnp, kRet, kEx, kCons, kCons2, kOp, kTest, kAnd, kOr, kNot, kNotT, kLst, kTup, kCall, kCio, kCit, kCit2, kComp2, kIdx, kMut, kSetix, kSetix2, kSlc, kSlc2, kSlc3, kFor, inits, opSem, oBin, oCmp, oIx, setL, okd, flat, truth, getSlots, upto, bindT, bindTs, wipeE, frzE, retC, freeze1, putSlots, nodupB, oB1, oB2, mutL, isOwnL, big, oMk, oCk, full, fullL, lendE_nil, lendE_cons, lendS_none, lendS_some, s_blk, k_blk, k_blkM, mergeE, s_whl, s_inc, k_incO, k_inc2, kInc2, o_so, k_so, oSlc, ot_so, ot_no, e_callv, t_callv, k_callvS, k_callvL, kCallvR, retN, kChnE, kChnA, kChnB, e_chn, t_chn, k_chnT, k_chnF, kChn3A, kChn3B, kChn3F, e_chn3, t_chn3, k_chn3T, k_chn3F, r_OBr, r_nxE, i_rng3, kR3a, kR3b, kR3c, e_mutp, k_pm3, k_pm2, kPm1, k_pm, s_setp, kSp4, k_sp3, k_sp2, k_sp1, k_sp, pe_k, e_pth, k_pth, k_pth2, ty_int, tk_int, tk_bool, is_ii, is_ib, h1, h2]
  · simp [d7, r_bind_ok, r_res_some, r_OBt, s_nil, s_one, k_nx, k_ret, k_brk, k_cnt, s_kill, s_frz, s_set, s_unp, k_unp, s_ifs, k_ifT, k_ifF, s_fr, s_ret, s_ex, s_setix, s_brk, s_cnt, s_pass, e_var, k_var, e_frz, k_frz, e_mv, k_mv, e_cst, k_cst, c_int, c_bl, c_non, c_str, e_op, a_nil, a_cons, e_lend, t_lend, k_lend, k_lendT, e_and, e_or, e_not, t_and, t_or, t_not, t_op, t_var, t_call, t_cio, t_cst, k_andTT, k_andTF, k_orTT, k_orTF, k_andOT, k_andOF, k_orOT, k_orOF, k_notO, e_lst, e_tup, e_call, e_cio, k_cio, k_out, e_cit, k_cit, e_comp, e_idx, k_idx, e_mut, k_mutS1, k_mutO, k_setS1, k_setO, e_slc, o_no, i_rng1, k_rng1, i_ex, k_itrL, r_fl, at0, at1, at2, oEq_int, oEq_str, kSet, kUnp, kRet, kEx, kCons, kCons2, kOp, kTest, kAnd, kOr, kNot, kNotT, kLst, kTup, kCall, kCio, kCit, kCit2, kComp2, kIdx, kMut, kSetix, kSetix2, kSlc, kSlc2, kSlc3, kFor, inits, opSem, oBin, oCmp, oIx, setL, okd, flat, truth, getSlots, upto, bindT, bindTs, wipeE, frzE, retC, freeze1, putSlots, nodupB, oB1, oB2, mutL, isOwnL, big, oMk, oCk, full, fullL, lendE_nil, lendE_cons, lendS_none, lendS_some, s_blk, k_blk, k_blkM, mergeE, s_whl, s_inc, k_incO, k_inc2, kInc2, o_so, k_so, oSlc, ot_so, ot_no, e_callv, t_callv, k_callvS, k_callvL, kCallvR, retN, kChnE, kChnA, kChnB, e_chn, t_chn, k_chnT, k_chnF, kChn3A, kChn3B, kChn3F, e_chn3, t_chn3, k_chn3T, k_chn3F, r_OBr, r_nxE, i_rng3, kR3a, kR3b, kR3c, e_mutp, k_pm3, k_pm2, kPm1, k_pm, s_setp, kSp4, k_sp3, k_sp2, k_sp1, k_sp, pe_k, e_pth, k_pth, k_pth2, ty_int, tk_int, tk_bool, is_ii, is_ib, h1]
theorem io_whole : f7.io = 0 := rfl
theorem shl_ok {k : Int} (h1 : 1 ≤ k) (h3 : k ≤ 3) : oBin .shl (.int 2) (.int (k - 1)) = some (.int (2 ^ k.toNat), 0) := by
  rw [← pw_eq h1 h3]
  have z1 : 0 ≤ k - 1 := by omega
  have z2 : k - 1 ≤ 1000000 := by omega
  show (if 0 ≤ k - 1 ∧ k - 1 ≤ 1000000 ∧ (2 : Int).natAbs < 2 ^ 64 then _ else none) = _
  rw [if_pos ⟨z1, z2, by decide⟩]
/-! is_code of a code -/
theorem c01 : (Str.ofString "01").cps.toList = [48, 49] := by decide
abbrev eP : E := .op (.cmp .nin) (.cons (.var 5) (.cons (.cst (.str "01")) .nil))
theorem pair_ok {n : Int} {many : Nat} (n0 : 0 ≤ n) (n9 : n ≤ 1000) (hm : many ≤ 1000) {p : Br} (h : BrOk n.toNat many p) : f8.F [(brD p, 0), (.int n, 0), (.int (many : Nat), 0)] = .ok (.bl true) 0 [] := by
  have lk : look [f0, f1, f2, f3, f4, f5, f6, f7] 7 = f7 := rfl
  have hw := whole_ok p.2 0 ((many : Int) - 1)
  have h1 := h.lo
  have h2 := h.hi
  rw [decide_eq_true (show 0 ≤ p.2 ∧ p.2 ≤ (many : Int) - 1 by omega)] at hw
  have hl := h.w.1
  have kn := kcomp_none (ρ := look [f0, f1, f2, f3, f4, f5, f6, f7]) (n := 0) (own := [5]) (t := .nm 5) (c := .so eP) (e := .var 5) (env := [some (brD p, 0), some (.int n, 0), some (.int (many : Nat), 0), some (.str p.1, 0), some (.int p.2, 0), none]) (fun c => D.str [c]) p.1 rfl fun x hx => by
    have hb := h.w.2 x hx
    refine ⟨[some (brD p, 0), some (.int n, 0), some (.int (many : Nat), 0), some (.str p.1, 0), some (.int p.2, 0), some (.str [x], 0)], rfl, [some (brD p, 0), some (.int n, 0), some (.int (many : Nat), 0), some (.str p.1, 0), some (.int p.2, 0), some (.str [x], 0)], ?_, rfl⟩
    have oi : oIn (.str [x]) (.str [48, 49]) = some true := by
      show some (decide (x ∈ [48, 49])) = _
      rw [decide_eq_true (by simpa using hb)]
    simp [r_bind_ok, r_res_some, r_OBt, s_nil, s_one, k_nx, k_ret, k_brk, k_cnt, s_kill, s_frz, s_set, s_unp, k_unp, s_ifs, k_ifT, k_ifF, s_fr, s_ret, s_ex, s_setix, s_brk, s_cnt, s_pass, e_var, k_var, e_frz, k_frz, e_mv, k_mv, e_cst, k_cst, c_int, c_bl, c_non, c_str, e_op, a_nil, a_cons, e_lend, t_lend, k_lend, k_lendT, e_and, e_or, e_not, t_and, t_or, t_not, t_op, t_var, t_call, t_cio, t_cst, k_andTT, k_andTF, k_orTT, k_orTF, k_andOT, k_andOF, k_orOT, k_orOF, k_notO, e_lst, e_tup, e_call, e_cio, k_cio, k_out, e_cit, k_cit, e_comp, e_idx, k_idx, e_mut, k_mutS1, k_mutO, k_setS1, k_setO, e_slc, o_no, i_rng1, k_rng1, i_ex, k_itrL, r_fl, at0, at1, at2, oEq_int, oEq_str, kSet, kUnp, kRet, kEx, kCons, kCons2, kOp, kTest, kAnd, kOr, kNot, kNotT, kLst, kTup, kCall, kCio, kCit, kCit2, kComp2, kIdx, kMut, kSetix, kSetix2, kSlc, kSlc2, kSlc3, kFor, inits, opSem, oBin, oCmp, oIx, setL, okd, flat, truth, getSlots, upto, bindT, bindTs, wipeE, frzE, retC, freeze1, putSlots, nodupB, oB1, oB2, mutL, isOwnL, big, oMk, oCk, full, fullL, lendE_nil, lendE_cons, lendS_none, lendS_some, s_blk, k_blk, k_blkM, mergeE, s_whl, s_inc, k_incO, k_inc2, kInc2, o_so, k_so, oSlc, ot_so, ot_no, e_callv, t_callv, k_callvS, k_callvL, kCallvR, retN, kChnE, kChnA, kChnB, e_chn, t_chn, k_chnT, k_chnF, kChn3A, kChn3B, kChn3F, e_chn3, t_chn3, k_chn3T, k_chn3F, r_OBr, r_nxE, i_rng3, kR3a, kR3b, kR3c, e_mutp, k_pm3, k_pm2, kPm1, k_pm, s_setp, kSp4, k_sp3, k_sp2, k_sp1, k_sp, pe_k, e_pth, k_pth, k_pth2, c01, oi]
  have z0 : p.1.length ≤ 16777216 := by omega
  have z1 : ((p.1.length : Nat) : Int) = n := by omega
  have z2 : oEq (.int ((p.1.length : Nat) : Int)) (.int n) = some true := by rw [z1, oEq_int]; simp
  have z3 : (fun c => D.str [c]) = fun c : Nat => D.str [c] := rfl
  have kI : ∀ (s : List Nat) (k : Nat) (env : Ev), s.length ≤ 16777216 → kItr (.str s, k) env = .ok (s.map fun c => D.str [c]) env := fun s k env h => if_pos h
  have hI := fun env => kI p.1 0 env z0
  unfold f8
  rw [r_runF rfl]
  simp only [brD, eP] at *
  generalize p.1 = w at *
  generalize p.2 = b at *
  generalize ((many : Nat) : Int) = m at *
  have e2 : oEq (.int 2) (.int 2) = some true := by decide
  simp -implicitDefEqProofs [d8, r_bind_ok, r_res_some, r_OBt, s_nil, s_one, k_nx, k_ret, k_brk, k_cnt, s_kill, s_frz, s_set, s_unp, k_unp, s_ifs, k_ifT, k_ifF, s_fr, s_ret, s_ex, s_setix, s_brk, s_cnt, s_pass, e_var, k_var, e_frz, k_frz, e_mv, k_mv, e_cst, k_cst, c_int, c_bl, c_non, c_str, e_op, a_nil, a_cons, e_lend, t_lend, k_lend, k_lendT, e_and, e_or, e_not, t_and, t_or, t_not, t_op, t_var, t_call, t_cio, t_cst, k_andTT, k_andTF, k_orTT, k_orTF, k_andOT, k_andOF, k_orOT, k_orOF, k_notO, e_lst, e_tup, e_call, e_cio, k_cio, k_out, e_cit, k_cit, e_comp, e_idx, k_idx, e_mut, k_mutS1, k_mutO, k_setS1, k_setO, e_slc, o_no, i_rng1, k_rng1, i_ex, k_itrL, r_fl, at0, at1, at2, oEq_int, oEq_str, kSet, kUnp, kRet, kEx, kCons, kCons2, kOp, kTest, kAnd, kOr, kNot, kNotT, kLst, kTup, kCall, kCio, kCit, kCit2, kComp2, kIdx, kMut, kSetix, kSetix2, kSlc, kSlc2, kSlc3, kFor, inits, opSem, oBin, oCmp, oIx, setL, okd, flat, truth, getSlots, upto, bindT, bindTs, wipeE, frzE, retC, freeze1, putSlots, nodupB, oB1, oB2, mutL, isOwnL, big, oMk, oCk, full, fullL, lendE_nil, lendE_cons, lendS_none, lendS_some, s_blk, k_blk, k_blkM, mergeE, s_whl, s_inc, k_incO, k_inc2, kInc2, o_so, k_so, oSlc, ot_so, ot_no, e_callv, t_callv, k_callvS, k_callvL, kCallvR, retN, kChnE, kChnA, kChnB, e_chn, t_chn, k_chnT, k_chnF, kChn3A, kChn3B, kChn3F, e_chn3, t_chn3, k_chn3T, k_chn3F, r_OBr, r_nxE, i_rng3, kR3a, kR3b, kR3c, e_mutp, k_pm3, k_pm2, kPm1, k_pm, s_setp, kSp4, k_sp3, k_sp2, k_sp1, k_sp, pe_k, e_pth, k_pth, k_pth2, bindT, bindTs, ty_tup, ty_str, tk_tuple, tk_str, is_tt, is_ss, lk, io_whole, hw, kn, hI, z0, z1, oEq_nil]
theorem io_pair : f8.io = 0 := rfl
abbrev eSt : E := .not (.call 8 (.cons (.var 4) (.cons (.var 2) (.cons (.var 3) .nil))))
theorem state_ok {k n : Int} {many : Nat} (h1 : 1 ≤ k) (h3 : k ≤ 3) (n0 : 0 ≤ n) (n9 : n ≤ 1000) (hm : many ≤ 1000) {row : List Br} (hl : row.length = 2 ^ k.toNat) (h : ∀ p ∈ row, BrOk n.toNat many p) : f9.F [(stD row, 0), (.int k, 0), (.int n, 0), (.int (many : Nat), 0)] = .ok (.bl true) 0 [] := by
  have lk : look [f0, f1, f2, f3, f4, f5, f6, f7, f8] 8 = f8 := rfl
  have sh := shl_ok h1 h3
  have kn := kcomp_none (ρ := look [f0, f1, f2, f3, f4, f5, f6, f7, f8]) (n := 0) (own := [4]) (t := .nm 4) (c := .so eSt) (e := .var 4) (env := [some (stD row, 0), some (.int k, 0), some (.int n, 0), some (.int (many : Nat), 0), none]) brD row rfl fun p hp => by
    have hq := pair_ok n0 n9 hm (h p hp)
    refine ⟨[some (stD row, 0), some (.int k, 0), some (.int n, 0), some (.int (many : Nat), 0), some (brD p, 0)], rfl, [some (stD row, 0), some (.int k, 0), some (.int n, 0), some (.int (many : Nat), 0), some (brD p, 0)], ?_, rfl⟩
    generalize ((many : Nat) : Int) = m at *
    generalize brD p = b at *
    simp [r_bind_ok, r_res_some, r_OBt, s_nil, s_one, k_nx, k_ret, k_brk, k_cnt, s_kill, s_frz, s_set, s_unp, k_unp, s_ifs, k_ifT, k_ifF, s_fr, s_ret, s_ex, s_setix, s_brk, s_cnt, s_pass, e_var, k_var, e_frz, k_frz, e_mv, k_mv, e_cst, k_cst, c_int, c_bl, c_non, c_str, e_op, a_nil, a_cons, e_lend, t_lend, k_lend, k_lendT, e_and, e_or, e_not, t_and, t_or, t_not, t_op, t_var, t_call, t_cio, t_cst, k_andTT, k_andTF, k_orTT, k_orTF, k_andOT, k_andOF, k_orOT, k_orOF, k_notO, e_lst, e_tup, e_call, e_cio, k_cio, k_out, e_cit, k_cit, e_comp, e_idx, k_idx, e_mut, k_mutS1, k_mutO, k_setS1, k_setO, e_slc, o_no, i_rng1, k_rng1, i_ex, k_itrL, r_fl, at0, at1, at2, oEq_int, oEq_str, kSet, kUnp, kRet, kEx, kCons, kCons2, kOp, kTest, kAnd, kOr, kNot, kNotT, kLst, kTup, kCall, kCio, kCit, kCit2, kComp2, kIdx, kMut, kSetix, kSetix2, kSlc, kSlc2, kSlc3, kFor, inits, opSem, oBin, oCmp, oIx, setL, okd, flat, truth, getSlots, upto, bindT, bindTs, wipeE, frzE, retC, freeze1, putSlots, nodupB, oB1, oB2, mutL, isOwnL, big, oMk, oCk, full, fullL, lendE_nil, lendE_cons, lendS_none, lendS_some, s_blk, k_blk, k_blkM, mergeE, s_whl, s_inc, k_incO, k_inc2, kInc2, o_so, k_so, oSlc, ot_so, ot_no, e_callv, t_callv, k_callvS, k_callvL, kCallvR, retN, kChnE, kChnA, kChnB, e_chn, t_chn, k_chnT, k_chnF, kChn3A, kChn3B, kChn3F, e_chn3, t_chn3, k_chn3T, k_chn3F, r_OBr, r_nxE, i_rng3, kR3a, kR3b, kR3c, e_mutp, k_pm3, k_pm2, kPm1, k_pm, s_setp, kSp4, k_sp3, k_sp2, k_sp1, k_sp, pe_k, e_pth, k_pth, k_pth2, lk, io_pair, hq]
  have hl2 : ((row.length : Nat) : Int) = 2 ^ k.toNat := by rw [hl, Int.natCast_pow]; rfl
  have q := oEq_int ((row.length : Nat) : Int) (2 ^ k.toNat)
  rw [decide_eq_true hl2] at q
  have sb1 : oBin .sub (.int k) (.int 1) = some (.int (k - 1), 0) := rfl
  unfold f9
  rw [r_runF rfl]
  generalize (2 : Int) ^ k.toNat = P at *
  generalize ((many : Nat) : Int) = m at *
  have lm : (row.map brD).length = row.length := by simp
  simp only [stD, eSt] at *
  generalize row.map brD = R at *
  rw [← lm] at hl2 q
  generalize hn : ((R.length : Nat) : Int) = rl at *
  have ol : oB1 .len (.lst R) = some (.int rl, 0) := by rw [← hn]; rfl
  simp only [d9]
  simp -implicitDefEqProofs [r_bind_ok, r_res_some, r_OBt, s_nil, s_one, k_nx, k_ret, k_brk, k_cnt, s_kill, s_frz, s_set, s_unp, k_unp, s_ifs, k_ifT, k_ifF, s_fr, s_ret, s_ex, s_setix, s_brk, s_cnt, s_pass, e_var, k_var, e_frz, k_frz, e_mv, k_mv, e_cst, k_cst, c_int, c_bl, c_non, c_str, e_op, a_nil, a_cons, e_lend, t_lend, k_lend, k_lendT, e_and, e_or, e_not, t_and, t_or, t_not, t_op, t_var, t_call, t_cio, t_cst, k_andTT, k_andTF, k_orTT, k_orTF, k_andOT, k_andOF, k_orOT, k_orOF, k_notO, e_lst, e_tup, e_call, e_cio, k_cio, k_out, e_cit, k_cit, e_comp, e_idx, k_idx, e_mut, k_mutS1, k_mutO, k_setS1, k_setO, e_slc, o_no, i_rng1, k_rng1, i_ex, k_itrL, r_fl, at0, at1, at2, oEq_int, oEq_str, kSet, kUnp, kRet, kEx, kCons, kCons2, kOp, kTest, kAnd, kOr, kNot, kNotT, kLst, kTup, kCall, kCio, kCit, kCit2, kComp2, kIdx, kMut, kSetix, kSetix2, kSlc, kSlc2, kSlc3, kFor, inits, opSem, oCmp, oIx, setL, okd, flat, truth, getSlots, upto, bindT, bindTs, wipeE, frzE, retC, freeze1, putSlots, nodupB, oB2, mutL, isOwnL, big, oMk, oCk, full, fullL, lendE_nil, lendE_cons, lendS_none, lendS_some, s_blk, k_blk, k_blkM, mergeE, s_whl, s_inc, k_incO, k_inc2, kInc2, o_so, k_so, oSlc, ot_so, ot_no, e_callv, t_callv, k_callvS, k_callvL, kCallvR, retN, kChnE, kChnA, kChnB, e_chn, t_chn, k_chnT, k_chnF, kChn3A, kChn3B, kChn3F, e_chn3, t_chn3, k_chn3T, k_chn3F, r_OBr, r_nxE, i_rng3, kR3a, kR3b, kR3c, e_mutp, k_pm3, k_pm2, kPm1, k_pm, s_setp, kSp4, k_sp3, k_sp2, k_sp1, k_sp, pe_k, e_pth, k_pth, k_pth2, ty_lst, tk_list, is_ll, lk, sh, sb1, ol, q, kn, oEq_nil, hl2]
theorem io_state : f9.io = 0 := rfl
abbrev eCd : E := .not (.call 9 (.cons (.var 4) (.cons (.var 1) (.cons (.var 2) (.cons (.op (.b1 .len) (.cons (.var 3) .nil)) .nil)))))
theorem iscode_ok {k n : Int} {states : List (List Br)} (c : Code k n states) : f10.F [(cdD k n states, 0)] = .ok (.bl true) 0 [] := by
  have lk1 : look [f0, f1, f2, f3, f4, f5, f6, f7, f8, f9] 7 = f7 := rfl
  have lk2 : look [f0, f1, f2, f3, f4, f5, f6, f7, f8, f9] 9 = f9 := rfl
  have w1 := whole_ok k 1 3
  rw [decide_eq_true (show 1 ≤ k ∧ k ≤ 3 from ⟨c.k1, c.k3⟩)] at w1
  have w2 := whole_ok n 1 6
  rw [decide_eq_true (show 1 ≤ n ∧ n ≤ 6 from ⟨c.n1, c.n6⟩)] at w2
  have n1 := c.n1
  have n6 := c.n6
  have l1 := c.l1
  have l8 := c.l8
  have kn := kcomp_none (ρ := look [f0, f1, f2, f3, f4, f5, f6, f7, f8, f9]) (n := 0) (own := [4]) (t := .nm 4) (c := .so eCd) (e := .var 4) (env := [some (cdD k n states, 0), some (.int k, 0), some (.int n, 0), some (.lst (states.map stD), 0), none]) stD states rfl fun st hst => by
    have hq := state_ok c.k1 c.k3 (n := n) (many := states.length) (by omega) (by omega) (by omega) (c.sz st hst) (c.br st hst)
    refine ⟨[some (cdD k n states, 0), some (.int k, 0), some (.int n, 0), some (.lst (states.map stD), 0), some (stD st, 0)], rfl, [some (cdD k n states, 0), some (.int k, 0), some (.int n, 0), some (.lst (states.map stD), 0), some (stD st, 0)], ?_, rfl⟩
    have ol : oB1 .len (.lst (states.map stD)) = some (.int ((states.length : Nat) : Int), 0) := by
      show some (D.int (((states.map stD).length : Nat) : Int), 0) = _
      rw [List.length_map]
    generalize ((states.length : Nat) : Int) = m at *
    generalize stD st = b at *
    generalize states.map stD = SS at *
    simp [r_bind_ok, r_res_some, r_OBt, s_nil, s_one, k_nx, k_ret, k_brk, k_cnt, s_kill, s_frz, s_set, s_unp, k_unp, s_ifs, k_ifT, k_ifF, s_fr, s_ret, s_ex, s_setix, s_brk, s_cnt, s_pass, e_var, k_var, e_frz, k_frz, e_mv, k_mv, e_cst, k_cst, c_int, c_bl, c_non, c_str, e_op, a_nil, a_cons, e_lend, t_lend, k_lend, k_lendT, e_and, e_or, e_not, t_and, t_or, t_not, t_op, t_var, t_call, t_cio, t_cst, k_andTT, k_andTF, k_orTT, k_orTF, k_andOT, k_andOF, k_orOT, k_orOF, k_notO, e_lst, e_tup, e_call, e_cio, k_cio, k_out, e_cit, k_cit, e_comp, e_idx, k_idx, e_mut, k_mutS1, k_mutO, k_setS1, k_setO, e_slc, o_no, i_rng1, k_rng1, i_ex, k_itrL, r_fl, at0, at1, at2, oEq_int, oEq_str, kSet, kUnp, kRet, kEx, kCons, kCons2, kOp, kTest, kAnd, kOr, kNot, kNotT, kLst, kTup, kCall, kCio, kCit, kCit2, kComp2, kIdx, kMut, kSetix, kSetix2, kSlc, kSlc2, kSlc3, kFor, inits, opSem, oBin, oCmp, oIx, setL, okd, flat, truth, getSlots, upto, bindT, bindTs, wipeE, frzE, retC, freeze1, putSlots, nodupB, oB2, mutL, isOwnL, big, oMk, oCk, full, fullL, lendE_nil, lendE_cons, lendS_none, lendS_some, s_blk, k_blk, k_blkM, mergeE, s_whl, s_inc, k_incO, k_inc2, kInc2, o_so, k_so, oSlc, ot_so, ot_no, e_callv, t_callv, k_callvS, k_callvL, kCallvR, retN, kChnE, kChnA, kChnB, e_chn, t_chn, k_chnT, k_chnF, kChn3A, kChn3B, kChn3F, e_chn3, t_chn3, k_chn3T, k_chn3F, r_OBr, r_nxE, i_rng3, kR3a, kR3b, kR3c, e_mutp, k_pm3, k_pm2, kPm1, k_pm, s_setp, kSp4, k_sp3, k_sp2, k_sp1, k_sp, pe_k, e_pth, k_pth, k_pth2, lk2, io_state, ol, hq]
  have ol : oB1 .len (.lst (states.map stD)) = some (.int ((states.length : Nat) : Int), 0) := by
    show some (D.int (((states.map stD).length : Nat) : Int), 0) = _
    rw [List.length_map]
  have z1 : (1 : Int) ≤ ((states.length : Nat) : Int) := by omega
  have z2 : ((states.length : Nat) : Int) ≤ 8 := by omega
  have glb : ∀ (x : Str) (i : Int) (env : Ev), (evP (look [f0, f1, f2, f3, f4, f5, f6, f7, f8, f9]) (.glb x (.int i))).1 env = .ok (.int i, 0) env := fun _ _ _ => rfl
  unfold f10
  rw [r_runF rfl]
  simp only [cdD, eCd] at *
  generalize ((states.length : Nat) : Int) = m at *
  generalize states.map stD = SS at *
  have o3 : oB1 .len (.tup [.int k, .int n, .lst SS]) = some (.int 3, 0) := rfl
  simp only [d10]
  simp -implicitDefEqProofs [r_bind_ok, r_res_some, r_OBt, s_nil, s_one, k_nx, k_ret, k_brk, k_cnt, s_kill, s_frz, s_set, s_unp, k_unp, s_ifs, k_ifT, k_ifF, s_fr, s_ret, s_ex, s_setix, s_brk, s_cnt, s_pass, e_var, k_var, e_frz, k_frz, e_mv, k_mv, e_cst, k_cst, c_int, c_bl, c_non, c_str, e_op, a_nil, a_cons, e_lend, t_lend, k_lend, k_lendT, e_and, e_or, e_not, t_and, t_or, t_not, t_op, t_var, t_call, t_cio, t_cst, k_andTT, k_andTF, k_orTT, k_orTF, k_andOT, k_andOF, k_orOT, k_orOF, k_notO, e_lst, e_tup, e_call, e_cio, k_cio, k_out, e_cit, k_cit, e_comp, e_idx, k_idx, e_mut, k_mutS1, k_mutO, k_setS1, k_setO, e_slc, o_no, i_rng1, k_rng1, i_ex, k_itrL, r_fl, at0, at1, at2, oEq_int, oEq_str, kSet, kUnp, kRet, kEx, kCons, kCons2, kOp, kTest, kAnd, kOr, kNot, kNotT, kLst, kTup, kCall, kCio, kCit, kCit2, kComp2, kIdx, kMut, kSetix, kSetix2, kSlc, kSlc2, kSlc3, kFor, inits, opSem, oBin, oCmp, oIx, setL, okd, flat, truth, getSlots, upto, bindT, bindTs, wipeE, frzE, retC, freeze1, putSlots, nodupB, oB2, mutL, isOwnL, big, oMk, oCk, full, fullL, lendE_nil, lendE_cons, lendS_none, lendS_some, s_blk, k_blk, k_blkM, mergeE, s_whl, s_inc, k_incO, k_inc2, kInc2, o_so, k_so, oSlc, ot_so, ot_no, e_callv, t_callv, k_callvS, k_callvL, kCallvR, retN, kChnE, kChnA, kChnB, e_chn, t_chn, k_chnT, k_chnF, kChn3A, kChn3B, kChn3F, e_chn3, t_chn3, k_chn3T, k_chn3F, r_OBr, r_nxE, i_rng3, kR3a, kR3b, kR3c, e_mutp, k_pm3, k_pm2, kPm1, k_pm, s_setp, kSp4, k_sp3, k_sp2, k_sp1, k_sp, pe_k, e_pth, k_pth, k_pth2, bindT, bindTs, ty_tup, tk_tuple, is_tt, ty_lst, tk_list, is_ll, lk1, lk2, io_whole, w1, w2, ol, o3, z1, z2, kn, oEq_nil, glb]
/-! ### the text -/
def BrT (n : Nat) (p : Br) : Prop := BitW n p.1 ∧ 0 ≤ p.2 ∧ p.2 < 8
def StT (n : Nat) (row : List Br) : Prop := row.length ≤ 8 ∧ ∀ p ∈ row, BrT n p
theorem Code_stT {k n : Int} {states : List (List Br)} (c : Code k n states) : ∀ st ∈ states, StT n.toNat st := fun st h => ⟨by
  rw [c.sz st h]
  have : k = 1 ∨ k = 2 ∨ k = 3 := by have := c.k1; have := c.k3; omega
  rcases this with rfl | rfl | rfl <;> decide, fun p hp => ⟨(c.br st h p hp).w, (c.br st h p hp).lo, by have := (c.br st h p hp).hi; have := c.l8; omega⟩⟩
theorem kcomp {ρ : Nat → Fn} {own : List Nat} {t : T} {e : E} {xs : List D} {env env2 : Ev} {ys : List D} (h1 : ownOk own env = true) (h2 : cloop 0 own t env (evOT ρ .no) (evP ρ e).1 xs env = .ok ys env2) : kComp ρ 0 own t .no e xs env = .ok (.lst ys, 1) env2 := by
  unfold kComp
  rw [if_pos h1, h2]
  rfl
def brT (p : Br) : List Nat := p.1 ++ [62] ++ textOf p.2
def tx1 (row : List Br) : List Nat := (Txt.join (Str.ofString ",") ((row.map brT).map sv)).cps.toList
def txA (k n : Int) (states : List (List Br)) : List Nat := (Txt.join (Str.ofString " ") (([textOf k, textOf n] ++ states.map tx1).map sv)).cps.toList
theorem str_ok {i : Int} (h0 : 0 ≤ i) (h1 : i < 8) : i.natAbs.log2 < 1920 ∧ (textOf i).length ≤ 1 := by
  have : i = 0 ∨ i = 1 ∨ i = 2 ∨ i = 3 ∨ i = 4 ∨ i = 5 ∨ i = 6 ∨ i = 7 := by omega
  rcases this with rfl | rfl | rfl | rfl | rfl | rfl | rfl | rfl <;> exact ⟨by decide, by decide⟩
theorem join_len (g : Str) (ys : List (List Nat)) : (Txt.join g (ys.map sv)).cps.toList.length = (ys.map List.length).sum + (ys.length - 1) * g.length := by
  have e := PySem.size_glued g (ys.map sv)
  have e3 : (ys.map sv).map (·.length) = ys.map List.length := by
    rw [List.map_map]
    exact List.map_congr_left fun y _ => sv_len y
  rw [e3, List.length_map] at e
  exact e
theorem sum_le {m : Nat} : ∀ {l : List Nat}, (∀ x ∈ l, x ≤ m) → l.sum ≤ l.length * m
  | [], _ => by simp
  | x :: l, h => by
    have h1 := h x List.mem_cons_self
    have h2 := sum_le (l := l) fun y hy => h y (List.mem_cons_of_mem _ hy)
    rw [List.sum_cons, List.length_cons, Nat.succ_mul]
    omega
theorem strs_map {α : Type} (f : α → List Nat) : ∀ l : List α, strsOf (l.map fun x => D.str (f x)) = some (l.map f)
  | [] => rfl
  | x :: l => by
    show (strsOf (l.map fun x => D.str (f x))).map (f x :: ·) = _
    rw [strs_map f l]; rfl
theorem brT_len {n : Nat} {p : Br} (h : BrT n p) (hn : n ≤ 6) : (brT p).length ≤ 8 := by
  obtain ⟨h1, h2, h3⟩ := h
  have := (str_ok h2 h3).2
  unfold brT
  simp only [List.length_append, List.length_singleton]
  have := h1.1
  omega
theorem row_sz {n : Nat} {row : List Br} (h : StT n row) (hn : n ≤ 6) : ((row.map brT).map List.length).sum ≤ 64 := by
  have h1 := sum_le (m := 8) (l := (row.map brT).map List.length) fun x hx => by
    obtain ⟨y, hy, rfl⟩ := List.mem_map.mp hx
    obtain ⟨p, hp, rfl⟩ := List.mem_map.mp hy
    exact brT_len (h.2 p hp) hn
  rw [List.length_map, List.length_map] at h1
  have := h.1
  omega
theorem tx1_len {n : Nat} {row : List Br} (h : StT n row) (hn : n ≤ 6) : (tx1 row).length ≤ 72 := by
  unfold tx1
  rw [join_len]
  have h1 := row_sz h hn
  have h2 := h.1
  have h3 : (Str.ofString ",").length = 1 := by decide
  rw [h3, List.length_map]
  omega
abbrev eltT : E := .op (.bin .add) (.cons (.op (.bin .add) (.cons (.var 3) (.cons (.cst (.str ">")) .nil))) (.cons (.op (.b1 .str) (.cons (.var 4) .nil)) .nil))
theorem map_of {α : Type} (f : α → D) {l : List α} {ys : List D} (hl : ys.length = l.length) (h : ∀ (i : Nat) (y : D), ys[i]? = some y → ∃ x, l[i]? = some x ∧ y = f x) : ys = l.map f := by
  apply List.ext_getElem?
  intro i
  rw [List.getElem?_map]
  cases e : ys[i]? with
  | none =>
    have : l[i]? = none := by
      rw [List.getElem?_eq_none_iff] at e ⊢
      omega
    rw [this]; rfl
  | some y =>
    obtain ⟨x, h1, h2⟩ := h i y e
    rw [h1, h2]; rfl
theorem row_txt (ρ : Nat → Fn) {n : Nat} (hn : n ≤ 6) (cd : D) (ws : List D) (row : List Br) (h : StT n row) (s3 s4 : Slot) (hs : ownOk [3, 4] [some (cd, 0), some (.lst ws, 1), some (stD row, 0), s3, s4] = true) :
    cloop 0 [3, 4] (.tp (.cons (.nm 3) (.cons (.nm 4) .nil))) [some (cd, 0), some (.lst ws, 1), some (stD row, 0), s3, s4] (evOT ρ .no) (evP ρ eltT).1 (row.map brD) [some (cd, 0), some (.lst ws, 1), some (stD row, 0), s3, s4] =
      .ok (row.map fun p => D.str (brT p)) [some (cd, 0), some (.lst ws, 1), some (stD row, 0), s3, s4] := by
  obtain ⟨ys, env', h1, h2, h3, h4⟩ := cloop_inv (ρ := ρ) (n := 0) (own := [3, 4]) (t := .tp (.cons (.nm 3) (.cons (.nm 4) .nil))) (env0 := [some (cd, 0), some (.lst ws, 1), some (stD row, 0), s3, s4]) (e := (evP ρ eltT).1)
    (fun i env => env = [some (cd, 0), some (.lst ws, 1), some (stD row, 0), s3, s4]) (fun i y => ∃ p, row[i]? = some p ∧ y = .str (brT p)) (ds := row.map brD) (env := [some (cd, 0), some (.lst ws, 1), some (stD row, 0), s3, s4]) (k := 0) rfl (fun i d env hd e => by
      subst e
      rw [List.getElem?_map] at hd
      obtain ⟨p, hp, rfl⟩ := Option.map_eq_some_iff.mp hd
      have hb := h.2 p (List.mem_of_getElem? hp)
      obtain ⟨hw, h5, h6⟩ := hb
      obtain ⟨h7, h8⟩ := str_ok h5 h6
      have h9 := hw.1
      have e1 : (Str.ofString ">").cps.toList = [62] := by decide
      have q1 : p.1.length + 1 ≤ 16777216 := by omega
      have q2 : p.1.length + 1 + (textOf p.2).length ≤ 16777216 := by omega
      refine ⟨_, (.str (brT p), 0), [some (cd, 0), some (.lst ws, 1), some (stD row, 0), some (.str p.1, 0), some (.int p.2, 0)], rfl, ?_, rfl, ⟨p, by rw [Nat.zero_add]; exact hp, rfl⟩, rfl⟩
      simp [r_bind_ok, r_res_some, r_OBt, s_nil, s_one, k_nx, k_ret, k_brk, k_cnt, s_kill, s_frz, s_set, s_unp, k_unp, s_ifs, k_ifT, k_ifF, s_fr, s_ret, s_ex, s_setix, s_brk, s_cnt, s_pass, e_var, k_var, e_frz, k_frz, e_mv, k_mv, e_cst, k_cst, c_int, c_bl, c_non, c_str, e_op, a_nil, a_cons, e_lend, t_lend, k_lend, k_lendT, e_and, e_or, e_not, t_and, t_or, t_not, t_op, t_var, t_call, t_cio, t_cst, k_andTT, k_andTF, k_orTT, k_orTF, k_andOT, k_andOF, k_orOT, k_orOF, k_notO, e_lst, e_tup, e_call, e_cio, k_cio, k_out, e_cit, k_cit, e_comp, e_idx, k_idx, e_mut, k_mutS1, k_mutO, k_setS1, k_setO, e_slc, o_no, i_rng1, k_rng1, i_ex, k_itrL, r_fl, at0, at1, at2, oEq_int, oEq_str, kSet, kUnp, kRet, kEx, kCons, kCons2, kOp, kTest, kAnd, kOr, kNot, kNotT, kLst, kTup, kCall, kCio, kCit, kCit2, kComp2, kIdx, kMut, kSetix, kSetix2, kSlc, kSlc2, kSlc3, kFor, inits, opSem, oBin, oCmp, oIx, setL, okd, flat, truth, getSlots, upto, bindT, bindTs, wipeE, frzE, retC, freeze1, putSlots, nodupB, oB1, oB2, mutL, isOwnL, big, oMk, oCk, full, fullL, lendE_nil, lendE_cons, lendS_none, lendS_some, s_blk, k_blk, k_blkM, mergeE, s_whl, s_inc, k_incO, k_inc2, kInc2, o_so, k_so, oSlc, ot_so, ot_no, e_callv, t_callv, k_callvS, k_callvL, kCallvR, retN, kChnE, kChnA, kChnB, e_chn, t_chn, k_chnT, k_chnF, kChn3A, kChn3B, kChn3F, e_chn3, t_chn3, k_chn3T, k_chn3F, r_OBr, r_nxE, i_rng3, kR3a, kR3b, kR3c, e_mutp, k_pm3, k_pm2, kPm1, k_pm, s_setp, kSp4, k_sp3, k_sp2, k_sp1, k_sp, pe_k, e_pth, k_pth, k_pth2, e1, q1, q2, h7, brT])
  have hy := map_of (fun p => D.str (brT p)) (l := row) (ys := ys) (by rw [h3, List.length_map]) fun i y hy => by
    obtain ⟨p, h5, h6⟩ := h4 i y hy
    rw [Nat.zero_add] at h5
    exact ⟨p, h5, h6⟩
  subst h2 hy
  exact h1
theorem ck1 {n : Nat} {row : List Br} (h : StT n row) (hn : n ≤ 6) : oCk .join (Str.ofString ",") (.lst (row.map fun p => D.str (brT p))) = some (.str (tx1 row), 0) := by
  show (strsOf (row.map fun p => D.str (brT p))).bind _ = _
  rw [strs_map]
  show (if ((row.map brT).map List.length).sum + (row.map brT).length * (Str.ofString ",").length ≤ big then some (D.str (tx1 row), 0) else none) = _
  rw [if_pos]
  have h1 := row_sz h hn
  have h2 := h.1
  have h3 : (Str.ofString ",").length = 1 := by decide
  rw [h3, List.length_map]
  show _ ≤ 16777216
  omega
theorem txt_loop (ρ : Nat → Fn) {n : Nat} (hn : n ≤ 6) (cd : D) (ws : List (List Nat)) (hws : ws.length ≤ 1000) (states : List (List Br)) (hl : states.length ≤ 1000) (h : ∀ st ∈ states, StT n st) (s2 : Slot) :
    ∃ s2', floop (.nm 2) (evS ρ b5_0) (states.map stD) [some (cd, 0), some (.lst (ws.map .str), 1), s2, none, none] = .ok .nx [some (cd, 0), some (.lst ((ws ++ states.map tx1).map .str), 1), s2', none, none] := by
  obtain ⟨env', h2, h3⟩ := floop_inv (t := .nm 2) (b := evS ρ b5_0) (fun i env => ∃ (us : List (List Nat)) (s2 : Slot), env = [some (cd, 0), some (.lst (us.map .str), 1), s2, none, none] ∧ us = ws ++ (states.take i).map tx1)
    (ds := states.map stD) (env := [some (cd, 0), some (.lst (ws.map .str), 1), s2, none, none]) (k := 0) ⟨ws, s2, rfl, by simp⟩ (fun i d env hd ⟨us, s2, e, hu⟩ => by
      subst e
      rw [List.getElem?_map] at hd
      obtain ⟨row, hrow, rfl⟩ := Option.map_eq_some_iff.mp hd
      have hr := h row (List.mem_of_getElem? hrow)
      have hlt := (List.getElem?_eq_some_iff.mp hrow).1
      have e := row_txt ρ hn cd (us.map .str) row hr none none rfl
      have e2 := kcomp (own := [3, 4]) rfl e
      have hck := ck1 hr hn
      have hul : us.length < 16777216 := by
        rw [hu]
        simp only [List.length_append, List.length_map, List.length_take]
        omega
      simp only [eltT, stD] at e2
      refine ⟨_, [some (cd, 0), some (.lst ((us ++ [tx1 row]).map .str), 1), some (stD row, 0), none, none], rfl, .inl ?_, us ++ [tx1 row], _, rfl, ?_⟩
      · simp [b5_0, r_bind_ok, r_res_some, r_OBt, s_nil, s_one, k_nx, k_ret, k_brk, k_cnt, s_kill, s_frz, s_set, s_unp, k_unp, s_ifs, k_ifT, k_ifF, s_fr, s_ret, s_ex, s_setix, s_brk, s_cnt, s_pass, e_var, k_var, e_frz, k_frz, e_mv, k_mv, e_cst, k_cst, c_int, c_bl, c_non, c_str, e_op, a_nil, a_cons, e_lend, t_lend, k_lend, k_lendT, e_and, e_or, e_not, t_and, t_or, t_not, t_op, t_var, t_call, t_cio, t_cst, k_andTT, k_andTF, k_orTT, k_orTF, k_andOT, k_andOF, k_orOT, k_orOF, k_notO, e_lst, e_tup, e_call, e_cio, k_cio, k_out, e_cit, k_cit, e_comp, e_idx, k_idx, e_mut, k_mutS1, k_mutO, k_setS1, k_setO, e_slc, o_no, i_rng1, k_rng1, i_ex, k_itrL, r_fl, at0, at1, at2, oEq_int, oEq_str, kSet, kUnp, kRet, kEx, kCons, kCons2, kOp, kTest, kAnd, kOr, kNot, kNotT, kLst, kTup, kCall, kCio, kCit, kCit2, kComp2, kIdx, kMut, kSetix, kSetix2, kSlc, kSlc2, kSlc3, kFor, inits, opSem, oBin, oCmp, oIx, setL, okd, flat, truth, getSlots, upto, bindT, bindTs, wipeE, frzE, retC, freeze1, putSlots, nodupB, oB1, oB2, mutL, isOwnL, big, full, fullL, lendE_nil, lendE_cons, lendS_none, lendS_some, s_blk, k_blk, k_blkM, mergeE, s_whl, s_inc, k_incO, k_inc2, kInc2, o_so, k_so, oSlc, ot_so, ot_no, e_callv, t_callv, k_callvS, k_callvL, kCallvR, retN, kChnE, kChnA, kChnB, e_chn, t_chn, k_chnT, k_chnF, kChn3A, kChn3B, kChn3F, e_chn3, t_chn3, k_chn3T, k_chn3F, r_OBr, r_nxE, i_rng3, kR3a, kR3b, kR3c, e_mutp, k_pm3, k_pm2, kPm1, k_pm, s_setp, kSp4, k_sp3, k_sp2, k_sp1, k_sp, pe_k, e_pth, k_pth, k_pth2, stD, e2, hck, hul]
      · rw [hu, List.append_assoc, Nat.zero_add, List.take_succ, hrow]
        simp)
  obtain ⟨us, s2', e, hu⟩ := h3
  subst e
  refine ⟨s2', ?_⟩
  rw [hu, List.length_map, Nat.zero_add, List.take_length] at h2
  exact h2
theorem ck2 {k n : Int} {states : List (List Br)} (h : Code k n states) : oCk .join (Str.ofString " ") (.lst (([textOf k, textOf n] ++ states.map tx1).map .str)) = some (.str (txA k n states), 0) := by
  show (strsOf (([textOf k, textOf n] ++ states.map tx1).map fun x => D.str x)).bind _ = _
  rw [strs_map (fun x => x), List.map_id']
  show (if (([textOf k, textOf n] ++ states.map tx1).map List.length).sum + ([textOf k, textOf n] ++ states.map tx1).length * (Str.ofString " ").length ≤ big then some (D.str (txA k n states), 0) else none) = _
  rw [if_pos]
  have h3 : (Str.ofString " ").length = 1 := by decide
  have hk := (str_ok (i := k) (by have := h.k1; omega) (by have := h.k3; omega)).2
  have hn := (str_ok (i := n) (by have := h.n1; omega) (by have := h.n6; omega)).2
  have h1 := sum_le (m := 72) (l := (([textOf k, textOf n] ++ states.map tx1).map List.length)) fun x hx => by
    obtain ⟨y, hy, rfl⟩ := List.mem_map.mp hx
    rcases List.mem_append.mp hy with z | z
    · rcases List.mem_cons.mp z with z | z
      · rw [z]; omega
      · rw [List.mem_singleton.mp z]; omega
    · obtain ⟨row, hr, rfl⟩ := List.mem_map.mp z
      exact tx1_len (Code_stT h row hr) (by have := h.n6; omega)
  have h2 := h.l8
  rw [List.length_map, List.length_append, List.length_map] at h1
  rw [h3, List.length_append, List.length_map]
  have h4 : ([textOf k, textOf n] : List (List Nat)).length = 2 := rfl
  rw [h4] at h1 ⊢
  show _ ≤ 16777216
  omega
theorem text_body (ρ : Nat → Fn) {k n : Int} {states : List (List Br)} (h : Code k n states) : ∃ env', evS ρ d5.body [some (cdD k n states, 0), none, none, none, none] = .ok (.ret (.str (txA k n states)) 0) env' := by
  obtain ⟨q1, q2⟩ := str_ok (i := k) (by have := h.k1; omega) (by have := h.k3; omega)
  obtain ⟨q3, q4⟩ := str_ok (i := n) (by have := h.n1; omega) (by have := h.n6; omega)
  obtain ⟨s2', e⟩ := txt_loop ρ (n := n.toNat) (by have := h.n6; omega) (cdD k n states) [textOf k, textOf n] (by simp) states (by have := h.l8; omega) (Code_stT h) none
  have e2 := ck2 h
  simp only [cdD, List.map_append, List.map_cons, List.map_nil, List.cons_append, List.nil_append, List.map_map] at e e2
  simp [d5, r_bind_ok, r_res_some, r_OBt, s_nil, s_one, k_nx, k_ret, k_brk, k_cnt, s_kill, s_frz, s_set, s_unp, k_unp, s_ifs, k_ifT, k_ifF, s_fr, s_ret, s_ex, s_setix, s_brk, s_cnt, s_pass, e_var, k_var, e_frz, k_frz, e_mv, k_mv, e_cst, k_cst, c_int, c_bl, c_non, c_str, e_op, a_nil, a_cons, e_lend, t_lend, k_lend, k_lendT, e_and, e_or, e_not, t_and, t_or, t_not, t_op, t_var, t_call, t_cio, t_cst, k_andTT, k_andTF, k_orTT, k_orTF, k_andOT, k_andOF, k_orOT, k_orOF, k_notO, e_lst, e_tup, e_call, e_cio, k_cio, k_out, e_cit, k_cit, e_comp, e_idx, k_idx, e_mut, k_mutS1, k_mutO, k_setS1, k_setO, e_slc, o_no, i_rng1, k_rng1, i_ex, k_itrL, r_fl, at0, at1, at2, oEq_int, oEq_str, kSet, kUnp, kRet, kEx, kCons, kCons2, kOp, kTest, kAnd, kOr, kNot, kNotT, kLst, kTup, kCall, kCio, kCit, kCit2, kComp2, kIdx, kMut, kSetix, kSetix2, kSlc, kSlc2, kSlc3, kFor, inits, opSem, oBin, oCmp, oIx, setL, okd, flat, truth, getSlots, upto, bindT, bindTs, wipeE, frzE, retC, freeze1, putSlots, nodupB, oB1, oB2, mutL, isOwnL, big, full, fullL, lendE_nil, lendE_cons, lendS_none, lendS_some, s_blk, k_blk, k_blkM, mergeE, s_whl, s_inc, k_incO, k_inc2, kInc2, o_so, k_so, oSlc, ot_so, ot_no, e_callv, t_callv, k_callvS, k_callvL, kCallvR, retN, kChnE, kChnA, kChnB, e_chn, t_chn, k_chnT, k_chnF, kChn3A, kChn3B, kChn3F, e_chn3, t_chn3, k_chn3T, k_chn3F, r_OBr, r_nxE, i_rng3, kR3a, kR3b, kR3c, e_mutp, k_pm3, k_pm2, kPm1, k_pm, s_setp, kSp4, k_sp3, k_sp2, k_sp1, k_sp, pe_k, e_pth, k_pth, k_pth2, cdD, q1, q3, e, e2]
theorem text5 {k n : Int} {states : List (List Br)} (h : Code k n states) : f5.F [(cdD k n states, 0)] = .ok (.str (txA k n states)) 0 [] := by
  obtain ⟨env', e⟩ := text_body (look [f0, f1, f2, f3, f4]) h
  unfold f5
  rw [r_runF rfl]
  show endF 0 (evS (look [f0, f1, f2, f3, f4]) d5.body [some (cdD k n states, 0), none, none, none, none]) = _
  rw [e]
  rfl
/-! ### read back -/
theorem gt1 : (Str.ofString ">").cps.toList = [62] := by decide
theorem io_fig : f6.io = 0 := rfl
theorem fig_ok {i : Int} (h0 : 0 ≤ i) (h1 : i < 8) : f6.F [(.str (textOf i), 0)] = .ok (.int i) 0 [] := by
  have key : ∃ c : Nat, textOf i = [c] ∧ c ∈ (Str.ofString "0123456789").cps.toList ∧ PySem.intText? (sv [c]) = some i := by
    have : i = 0 ∨ i = 1 ∨ i = 2 ∨ i = 3 ∨ i = 4 ∨ i = 5 ∨ i = 6 ∨ i = 7 := by omega
    rcases this with rfl | rfl | rfl | rfl | rfl | rfl | rfl | rfl
    · exact ⟨48, by decide, by decide, by decide +kernel⟩
    · exact ⟨49, by decide, by decide, by decide +kernel⟩
    · exact ⟨50, by decide, by decide, by decide +kernel⟩
    · exact ⟨51, by decide, by decide, by decide +kernel⟩
    · exact ⟨52, by decide, by decide, by decide +kernel⟩
    · exact ⟨53, by decide, by decide, by decide +kernel⟩
    · exact ⟨54, by decide, by decide, by decide +kernel⟩
    · exact ⟨55, by decide, by decide, by decide +kernel⟩
  obtain ⟨c, e1, e2, e3⟩ := key
  have e4 : oIn (.str [c]) (.str (Str.ofString "0123456789").cps.toList) = some true := by
    show some (decide (c ∈ (Str.ofString "0123456789").cps.toList)) = _
    rw [decide_eq_true e2]
  have e5 : oB1 .int (.str [c]) = some (.int i, 0) := by
    show (PySem.intText? (sv [c])).bind (fun n => if ([c] : List Nat).length ≤ 640 then some (D.int n, 0) else none) = _
    rw [e3]; rfl
  have e6 : oB1 .len (.str [c]) = some (.int 1, 0) := rfl
  have e7 : ∀ env : Ev, (evP (look [f0, f1, f2, f3, f4, f5]) (.glb "FIGURES" (.str "0123456789"))).1 env = .ok (.str (Str.ofString "0123456789").cps.toList, 0) env := fun _ => rfl
  rw [e1]
  unfold f6
  rw [r_runF rfl]
  generalize (Str.ofString "0123456789").cps.toList = FG at *
  simp -implicitDefEqProofs [d6, r_bind_ok, r_res_some, r_OBt, s_nil, s_one, k_nx, k_ret, k_brk, k_cnt, s_kill, s_frz, s_set, s_unp, k_unp, s_ifs, k_ifT, k_ifF, s_fr, s_ret, s_ex, s_setix, s_brk, s_cnt, s_pass, e_var, k_var, e_frz, k_frz, e_mv, k_mv, e_cst, k_cst, c_int, c_bl, c_non, c_str, e_op, a_nil, a_cons, e_lend, t_lend, k_lend, k_lendT, e_and, e_or, e_not, t_and, t_or, t_not, t_op, t_var, t_call, t_cio, t_cst, k_andTT, k_andTF, k_orTT, k_orTF, k_andOT, k_andOF, k_orOT, k_orOF, k_notO, e_lst, e_tup, e_call, e_cio, k_cio, k_out, e_cit, k_cit, e_comp, e_idx, k_idx, e_mut, k_mutS1, k_mutO, k_setS1, k_setO, e_slc, o_no, i_rng1, k_rng1, i_ex, k_itrL, r_fl, at0, at1, at2, oEq_int, oEq_str, kSet, kUnp, kRet, kEx, kCons, kCons2, kOp, kTest, kAnd, kOr, kNot, kNotT, kLst, kTup, kCall, kCio, kCit, kCit2, kComp2, kIdx, kMut, kSetix, kSetix2, kSlc, kSlc2, kSlc3, kFor, inits, opSem, oBin, oCmp, oIx, setL, okd, flat, truth, getSlots, upto, bindT, bindTs, wipeE, frzE, retC, freeze1, putSlots, nodupB, oB2, mutL, isOwnL, big, oMk, oCk, full, fullL, lendE_nil, lendE_cons, lendS_none, lendS_some, s_blk, k_blk, k_blkM, mergeE, s_whl, s_inc, k_incO, k_inc2, kInc2, o_so, k_so, oSlc, ot_so, ot_no, e_callv, t_callv, k_callvS, k_callvL, kCallvR, retN, kChnE, kChnA, kChnB, e_chn, t_chn, k_chnT, k_chnF, kChn3A, kChn3B, kChn3F, e_chn3, t_chn3, k_chn3T, k_chn3F, r_OBr, r_nxE, i_rng3, kR3a, kR3b, kR3c, e_mutp, k_pm3, k_pm2, kPm1, k_pm, s_setp, kSp4, k_sp3, k_sp2, k_sp1, k_sp, pe_k, e_pth, k_pth, k_pth2, e4, e5, e6, e7]
theorem io_branchof : f11.io = 0 := rfl
theorem txt_chars {i : Int} (h0 : 0 ≤ i) (h1 : i < 8) : ∀ c ∈ textOf i, 48 ≤ c ∧ c < 58 := by
  have : i = 0 ∨ i = 1 ∨ i = 2 ∨ i = 3 ∨ i = 4 ∨ i = 5 ∨ i = 6 ∨ i = 7 := by omega
  rcases this with rfl | rfl | rfl | rfl | rfl | rfl | rfl | rfl <;> decide
theorem part_ok {n : Nat} {p : Br} (h : BrT n p) (hn : n ≤ 6) : oMk .partition (Str.ofString ">") (.str (brT p)) = some (.tup [.str p.1, .str [62], .str (textOf p.2)], 1) := by
  have e : Txt.partition (sv (brT p)) (Str.ofString ">") = (sv p.1, Str.ofString ">", sv (textOf p.2)) := by
    have e2 : sv (brT p) = sv p.1 ++ Str.ofString ">" ++ sv (textOf p.2) := by
      have e3 : Str.ofString ">" = sv [62] := by decide
      rw [e3, sv_add, sv_add]; rfl
    rw [e2]
    refine TL.partition_app (s := 62) (S := []) (by decide) fun hc => ?_
    have : 62 = 48 ∨ 62 = 49 := h.1.2 62 hc
    omega
  show (if ((Str.ofString ">").length == 0) = false ∧ (brT p).length ≤ big then some (D.tup [.str (Txt.partition (sv (brT p)) (Str.ofString ">")).1.cps.toList, .str (Txt.partition (sv (brT p)) (Str.ofString ">")).2.1.cps.toList, .str (Txt.partition (sv (brT p)) (Str.ofString ">")).2.2.cps.toList], 1) else none) = _
  have hl := brT_len h hn
  rw [if_pos ⟨by decide, by show _ ≤ 16777216; omega⟩, e]
  have e3 : (Str.ofString ">").cps.toList = [62] := by decide
  show some (D.tup [.str p.1, .str (Str.ofString ">").cps.toList, .str (textOf p.2)], 1) = _
  rw [e3]
theorem brof_ok {n : Nat} {p : Br} (h : BrT n p) (hn : n ≤ 6) : f11.F [(.str (brT p), 0)] = .ok (brD p) 1 [] := by
  have lk : look [f0, f1, f2, f3, f4, f5, f6, f7, f8, f9, f10] 6 = f6 := rfl
  have e := part_ok h hn
  have e2 := fig_ok h.2.1 h.2.2
  unfold f11
  rw [r_runF rfl]
  generalize brT p = bt at *
  generalize textOf p.2 = tt at *
  simp only [brD]
  generalize p.1 = w at *
  generalize p.2 = b at *
  simp only [d11]
  simp -implicitDefEqProofs [r_bind_ok, r_res_some, r_OBt, s_nil, s_one, k_nx, k_ret, k_brk, k_cnt, s_kill, s_frz, s_set, s_unp, k_unp, s_ifs, k_ifT, k_ifF, s_fr, s_ret, s_ex, s_setix, s_brk, s_cnt, s_pass, e_var, k_var, e_frz, k_frz, e_mv, k_mv, e_cst, k_cst, c_int, c_bl, c_non, c_str, e_op, a_nil, a_cons, e_lend, t_lend, k_lend, k_lendT, e_and, e_or, e_not, t_and, t_or, t_not, t_op, t_var, t_call, t_cio, t_cst, k_andTT, k_andTF, k_orTT, k_orTF, k_andOT, k_andOF, k_orOT, k_orOF, k_notO, e_lst, e_tup, e_call, e_cio, k_cio, k_out, e_cit, k_cit, e_comp, e_idx, k_idx, e_mut, k_mutS1, k_mutO, k_setS1, k_setO, e_slc, o_no, i_rng1, k_rng1, i_ex, k_itrL, r_fl, at0, at1, at2, oEq_int, oEq_str, kSet, kUnp, kRet, kEx, kCons, kCons2, kOp, kTest, kAnd, kOr, kNot, kNotT, kLst, kTup, kCall, kCio, kCit, kCit2, kComp2, kIdx, kMut, kSetix, kSetix2, kSlc, kSlc2, kSlc3, kFor, inits, opSem, oBin, oCmp, oIx, setL, okd, flat, truth, getSlots, upto, bindT, bindTs, wipeE, frzE, retC, freeze1, putSlots, nodupB, oB1, oB2, mutL, isOwnL, big, full, fullL, lendE_nil, lendE_cons, lendS_none, lendS_some, s_blk, k_blk, k_blkM, mergeE, s_whl, s_inc, k_incO, k_inc2, kInc2, o_so, k_so, oSlc, ot_so, ot_no, e_callv, t_callv, k_callvS, k_callvL, kCallvR, retN, kChnE, kChnA, kChnB, e_chn, t_chn, k_chnT, k_chnF, kChn3A, kChn3B, kChn3F, e_chn3, t_chn3, k_chn3T, k_chn3F, r_OBr, r_nxE, i_rng3, kR3a, kR3b, kR3c, e_mutp, k_pm3, k_pm2, kPm1, k_pm, s_setp, kSp4, k_sp3, k_sp2, k_sp1, k_sp, pe_k, e_pth, k_pth, k_pth2, bindT, bindTs, lk, io_fig, e, e2]
theorem split_ok {g : Str} {s : Nat} (eg : g.cps.toList = [s]) (hg : g.cps.all (· < 256) = true) {ps : List (List Nat)} (hne : ps ≠ []) (hs : ∀ p ∈ ps, s ∉ p) (hl : (Txt.join g (ps.map sv)).cps.toList.length + 2 ≤ big) :
    oMk .split g (.str (Txt.join g (ps.map sv)).cps.toList) = some (.lst (ps.map .str), 1) := by
  have e : Txt.split (sv (Txt.join g (ps.map sv)).cps.toList) g = ps.map sv := by
    rw [sv_to]
    refine TL.split_join (s := s) (S := []) eg hg (fun z => hne (List.map_eq_nil_iff.mp z)) fun p hp => ?_
    obtain ⟨q, hq, rfl⟩ := List.mem_map.mp hp
    exact hs q hq
  have g0 : (g.length == 0) = false := by
    have : g.length = 1 := by
      show g.cps.size = 1
      rw [← Array.length_toList, eg]; rfl
    rw [this]; rfl
  show (if (g.length == 0) = false ∧ (Txt.join g (ps.map sv)).cps.toList.length + 2 ≤ big then some (D.lst ((Txt.split (sv (Txt.join g (ps.map sv)).cps.toList) g).map fun x => .str x.cps.toList), 1) else none) = _
  rw [if_pos ⟨g0, hl⟩, e, List.map_map]
  rfl
theorem mem_joinL {S : List Nat} {c : Nat} : ∀ {ps : List (List Nat)}, c ∈ TL.joinL S ps → c ∈ S ∨ ∃ p ∈ ps, c ∈ p
  | [], h => nomatch h
  | [p], h => .inr ⟨p, List.mem_singleton.mpr rfl, h⟩
  | p :: q :: r, h => by
    have h : c ∈ p ++ (S ++ TL.joinL S (q :: r)) := h
    rcases List.mem_append.mp h with h | h
    · exact .inr ⟨p, List.mem_cons_self, h⟩
    rcases List.mem_append.mp h with h | h
    · exact .inl h
    · rcases mem_joinL h with h | ⟨x, h1, h2⟩
      · exact .inl h
      · exact .inr ⟨x, List.mem_cons_of_mem _ h1, h2⟩
theorem mem_join {g : Str} {c : Nat} {ps : List (List Nat)} (h : c ∈ (Txt.join g (ps.map sv)).cps.toList) : c ∈ g.cps.toList ∨ ∃ p ∈ ps, c ∈ p := by
  have e : (Txt.join g (ps.map sv)).cps.toList = TL.joinL g.cps.toList ps := by
    rw [TL.join_eq]
    have := TL.tl_join g (ps.map sv)
    rw [List.map_map] at this
    have e2 : ps.map (TL.tl ∘ sv) = ps := by
      have : (TL.tl ∘ sv) = id := by funext x; rfl
      rw [this, List.map_id]
    rw [e2] at this
    exact this
  rw [e] at h
  exact mem_joinL h
theorem comma : (Str.ofString ",").cps.toList = [44] := by decide
theorem brT_chars {n : Nat} {p : Br} (h : BrT n p) : ∀ c ∈ brT p, 48 ≤ c := fun c hc => by
  unfold brT at hc
  rcases List.mem_append.mp hc with hc | hc
  · rcases List.mem_append.mp hc with hc | hc
    · have := h.1.2 c hc; omega
    · rw [List.mem_singleton.mp hc]; omega
  · exact (txt_chars h.2.1 h.2.2 c hc).1
theorem tx1_chars {n : Nat} {row : List Br} (h : StT n row) : ∀ c ∈ tx1 row, 44 ≤ c := fun c hc => by
  rcases mem_join hc with hc | ⟨p, hp, hc⟩
  · rw [comma] at hc
    rw [List.mem_singleton.mp hc]; omega
  · obtain ⟨q, hq, rfl⟩ := List.mem_map.mp hp
    have := brT_chars (h.2 q hq) c hc
    omega
abbrev eBr : E := .call 11 (.cons (.var 5) .nil)
abbrev eRow : E := .comp 0 [5] (.nm 5) (.ex (.op (.mk .split ",") (.cons (.var 4) .nil))) .no eBr
theorem row_back {n : Nat} {row : List Br} (h : StT n row) (hn : n ≤ 6) (hne : row ≠ []) (s0 s1 : D) :
    (evP (look [f0, f1, f2, f3, f4, f5, f6, f7, f8, f9, f10, f11]) eRow).1 [some (s0, 0), some (s1, 0), none, none, some (.str (tx1 row), 0), none] = .ok (stD row, 1) [some (s0, 0), some (s1, 0), none, none, some (.str (tx1 row), 0), none] := by
  have lk : look [f0, f1, f2, f3, f4, f5, f6, f7, f8, f9, f10, f11] 11 = f11 := rfl
  have hl := tx1_len h hn
  have sp := split_ok (g := Str.ofString ",") (s := 44) (by decide) (by decide +kernel) (ps := row.map brT) (fun z => hne (List.map_eq_nil_iff.mp z)) (fun p hp hc => by
    obtain ⟨q, hq, rfl⟩ := List.mem_map.mp hp
    have := brT_chars (h.2 q hq) 44 hc
    omega) (by show (tx1 row).length + 2 ≤ 16777216; omega)
  have sp : oMk .split (Str.ofString ",") (.str (tx1 row)) = some (.lst ((row.map brT).map .str), 1) := sp
  rw [List.map_map] at sp
  have km := kcomp_map (ρ := look [f0, f1, f2, f3, f4, f5, f6, f7, f8, f9, f10, f11]) (n := 0) (own := [5]) (t := .nm 5) (e := eBr) (env := [some (s0, 0), some (s1, 0), none, none, some (.str (tx1 row), 0), none]) (D.str ∘ brT) brD row rfl fun p hp => by
    have e := brof_ok (h.2 p hp) hn
    refine ⟨[some (s0, 0), some (s1, 0), none, none, some (.str (tx1 row), 0), some (.str (brT p), 0)], rfl, (brD p, 1), [some (s0, 0), some (s1, 0), none, none, some (.str (tx1 row), 0), some (.str (brT p), 0)], ?_, rfl, rfl, rfl⟩
    generalize tx1 row = TX at *
    generalize brD p = bd at *
    generalize brT p = bt at *
    simp [r_bind_ok, r_res_some, r_OBt, s_nil, s_one, k_nx, k_ret, k_brk, k_cnt, s_kill, s_frz, s_set, s_unp, k_unp, s_ifs, k_ifT, k_ifF, s_fr, s_ret, s_ex, s_setix, s_brk, s_cnt, s_pass, e_var, k_var, e_frz, k_frz, e_mv, k_mv, e_cst, k_cst, c_int, c_bl, c_non, c_str, e_op, a_nil, a_cons, e_lend, t_lend, k_lend, k_lendT, e_and, e_or, e_not, t_and, t_or, t_not, t_op, t_var, t_call, t_cio, t_cst, k_andTT, k_andTF, k_orTT, k_orTF, k_andOT, k_andOF, k_orOT, k_orOF, k_notO, e_lst, e_tup, e_call, e_cio, k_cio, k_out, e_cit, k_cit, e_comp, e_idx, k_idx, e_mut, k_mutS1, k_mutO, k_setS1, k_setO, e_slc, o_no, i_rng1, k_rng1, i_ex, k_itrL, r_fl, at0, at1, at2, oEq_int, oEq_str, kSet, kUnp, kRet, kEx, kCons, kCons2, kOp, kTest, kAnd, kOr, kNot, kNotT, kLst, kTup, kCall, kCio, kCit, kCit2, kComp2, kIdx, kMut, kSetix, kSetix2, kSlc, kSlc2, kSlc3, kFor, inits, opSem, oBin, oCmp, oIx, setL, okd, flat, truth, getSlots, upto, bindT, bindTs, wipeE, frzE, retC, freeze1, putSlots, nodupB, oB1, oB2, mutL, isOwnL, big, oMk, oCk, full, fullL, lendE_nil, lendE_cons, lendS_none, lendS_some, s_blk, k_blk, k_blkM, mergeE, s_whl, s_inc, k_incO, k_inc2, kInc2, o_so, k_so, oSlc, ot_so, ot_no, e_callv, t_callv, k_callvS, k_callvL, kCallvR, retN, kChnE, kChnA, kChnB, e_chn, t_chn, k_chnT, k_chnF, kChn3A, kChn3B, kChn3F, e_chn3, t_chn3, k_chn3T, k_chn3F, r_OBr, r_nxE, i_rng3, kR3a, kR3b, kR3c, e_mutp, k_pm3, k_pm2, kPm1, k_pm, s_setp, kSp4, k_sp3, k_sp2, k_sp1, k_sp, pe_k, e_pth, k_pth, k_pth2, lk, io_branchof, e]
  simp only [eRow]
  generalize tx1 row = TX at *
  simp only [eBr] at km
  simp -implicitDefEqProofs [r_bind_ok, r_res_some, r_OBt, s_nil, s_one, k_nx, k_ret, k_brk, k_cnt, s_kill, s_frz, s_set, s_unp, k_unp, s_ifs, k_ifT, k_ifF, s_fr, s_ret, s_ex, s_setix, s_brk, s_cnt, s_pass, e_var, k_var, e_frz, k_frz, e_mv, k_mv, e_cst, k_cst, c_int, c_bl, c_non, c_str, e_op, a_nil, a_cons, e_lend, t_lend, k_lend, k_lendT, e_and, e_or, e_not, t_and, t_or, t_not, t_op, t_var, t_call, t_cio, t_cst, k_andTT, k_andTF, k_orTT, k_orTF, k_andOT, k_andOF, k_orOT, k_orOF, k_notO, e_lst, e_tup, e_call, e_cio, k_cio, k_out, e_cit, k_cit, e_comp, e_idx, k_idx, e_mut, k_mutS1, k_mutO, k_setS1, k_setO, e_slc, o_no, i_rng1, k_rng1, i_ex, k_itrL, r_fl, at0, at1, at2, oEq_int, oEq_str, kSet, kUnp, kRet, kEx, kCons, kCons2, kOp, kTest, kAnd, kOr, kNot, kNotT, kLst, kTup, kCall, kCio, kCit, kCit2, kComp2, kIdx, kMut, kSetix, kSetix2, kSlc, kSlc2, kSlc3, kFor, inits, opSem, oBin, oCmp, oIx, setL, okd, flat, truth, getSlots, upto, bindT, bindTs, wipeE, frzE, retC, freeze1, putSlots, nodupB, oB1, oB2, mutL, isOwnL, big, full, fullL, lendE_nil, lendE_cons, lendS_none, lendS_some, s_blk, k_blk, k_blkM, mergeE, s_whl, s_inc, k_incO, k_inc2, kInc2, o_so, k_so, oSlc, ot_so, ot_no, e_callv, t_callv, k_callvS, k_callvL, kCallvR, retN, kChnE, kChnA, kChnB, e_chn, t_chn, k_chnT, k_chnF, kChn3A, kChn3B, kChn3F, e_chn3, t_chn3, k_chn3T, k_chn3F, r_OBr, r_nxE, i_rng3, kR3a, kR3b, kR3c, e_mutp, k_pm3, k_pm2, kPm1, k_pm, s_setp, kSp4, k_sp3, k_sp2, k_sp1, k_sp, pe_k, e_pth, k_pth, k_pth2, sp, km, stD]
theorem bk_states {n : Nat} {states : List (List Br)} (h : ∀ st ∈ states, StT n st) (hn : n ≤ 6) (hne : ∀ st ∈ states, st ≠ []) (s0 s1 : D) :
    kComp (look [f0, f1, f2, f3, f4, f5, f6, f7, f8, f9, f10, f11]) 1 [4] (.nm 4) .no eRow (states.map fun r => .str (tx1 r)) [some (s0, 0), some (s1, 0), none, none, none, none] = .ok (.lst (states.map stD), 2) [some (s0, 0), some (s1, 0), none, none, none, none] :=
  kcomp_map (fun r => D.str (tx1 r)) stD states rfl fun row hr => ⟨_, rfl, _, _, row_back (h row hr) hn (hne row hr) s0 s1, rfl, rfl, rfl⟩
theorem txA_len {k n : Int} {states : List (List Br)} (h : Code k n states) : (txA k n states).length + 2 ≤ 16777216 := by
  unfold txA
  rw [join_len]
  have h3 : (Str.ofString " ").length = 1 := by decide
  have hk := (str_ok (i := k) (by have := h.k1; omega) (by have := h.k3; omega)).2
  have hn := (str_ok (i := n) (by have := h.n1; omega) (by have := h.n6; omega)).2
  have h1 := sum_le (m := 72) (l := (([textOf k, textOf n] ++ states.map tx1).map List.length)) fun x hx => by
    obtain ⟨y, hy, rfl⟩ := List.mem_map.mp hx
    rcases List.mem_append.mp hy with z | z
    · rcases List.mem_cons.mp z with z | z
      · rw [z]; omega
      · rw [List.mem_singleton.mp z]; omega
    · obtain ⟨row, hr, rfl⟩ := List.mem_map.mp z
      exact tx1_len (Code_stT h row hr) (by have := h.n6; omega)
  have h2 := h.l8
  rw [List.length_map, List.length_append, List.length_map] at h1
  rw [h3, List.length_append, List.length_map]
  have h4 : ([textOf k, textOf n] : List (List Nat)).length = 2 := rfl
  rw [h4] at h1 ⊢
  omega
theorem row_ne {k n : Int} {states : List (List Br)} (h : Code k n states) : ∀ st ∈ states, st ≠ [] := fun st hst z => by
  have := h.sz st hst
  rw [z] at this
  have h2 : 0 < 2 ^ k.toNat := Nat.pos_of_ne_zero (by simp)
  rw [← this] at h2
  exact absurd h2 (by simp)
theorem io_iscode : f10.io = 0 := rfl
theorem read_ok {k n : Int} {states : List (List Br)} (h : Code k n states) : f12.F [(.str (txA k n states), 0)] = .ok (cdD k n states) 3 [] := by
  have lk1 : look [f0, f1, f2, f3, f4, f5, f6, f7, f8, f9, f10, f11] 6 = f6 := rfl
  have lk2 : look [f0, f1, f2, f3, f4, f5, f6, f7, f8, f9, f10, f11] 10 = f10 := rfl
  have f1' := fig_ok (i := k) (by have := h.k1; omega) (by have := h.k3; omega)
  have f2' := fig_ok (i := n) (by have := h.n1; omega) (by have := h.n6; omega)
  have ic := iscode_ok h
  have c1 := txt_chars (i := k) (by have := h.k1; omega) (by have := h.k3; omega)
  have c2 := txt_chars (i := n) (by have := h.n1; omega) (by have := h.n6; omega)
  have sp : oMk .split (Str.ofString " ") (.str (txA k n states)) = some (.lst (([textOf k, textOf n] ++ states.map tx1).map .str), 1) := split_ok (g := Str.ofString " ") (s := 32) (by decide) (by decide +kernel) (by simp) (fun p hp hc => by
    rcases List.mem_append.mp hp with z | z
    · rcases List.mem_cons.mp z with z | z
      · rw [z] at hc; have := c1 32 hc; omega
      · rw [List.mem_singleton.mp z] at hc; have := c2 32 hc; omega
    · obtain ⟨row, hr, rfl⟩ := List.mem_map.mp z
      have := tx1_chars (Code_stT h row hr) 32 hc
      omega) (txA_len h)
  have bs := fun s0 s1 => bk_states (Code_stT h) (by have := h.n6; omega) (row_ne h) s0 s1
  simp only [List.map_append, List.map_cons, List.map_nil, List.cons_append, List.nil_append, List.map_map] at sp
  have sl : ∀ (a b : D) (r : List D), oSlc (.lst (a :: b :: r)) (some 2) none = some (.lst r, 1) := fun a b r => by
    show some (D.lst (Pv.cutD (a :: b :: r) (some 2) none), 1) = _
    have e : Pv.cutD (a :: b :: r) (some 2) none = r := by
      unfold Pv.cutD HT.sIx
      simp
    rw [e]
  have ix0 : ∀ (a b : D) (r : List D), oIx (.lst (a :: b :: r)) (.int 0) = some (a, 0) := fun a b r => by
    show (atI (a :: b :: r) 0).map (·, 0) = _
    have := atI_nat (xs := a :: b :: r) (j := 0) (v := a) rfl
    rw [show ((0 : Nat) : Int) = 0 from rfl] at this
    rw [this]; rfl
  have ix1 : ∀ (a b : D) (r : List D), oIx (.lst (a :: b :: r)) (.int 1) = some (b, 0) := fun a b r => by
    show (atI (a :: b :: r) 1).map (·, 0) = _
    have := atI_nat (xs := a :: b :: r) (j := 1) (v := b) rfl
    rw [show ((1 : Nat) : Int) = 1 from rfl] at this
    rw [this]; rfl
  have ol : oB1 .len (.lst (D.str (textOf k) :: D.str (textOf n) :: states.map (D.str ∘ tx1))) = some (.int (states.length + 2 : Nat), 0) := by
    show some (D.int (((D.str (textOf k) :: D.str (textOf n) :: states.map (D.str ∘ tx1)).length : Nat) : Int), 0) = _
    rw [List.length_cons, List.length_cons, List.length_map]
  have l3 : ¬ ((states.length + 2 : Nat) : Int) < 3 := by have := h.l1; omega
  have sm : (states.map fun r => D.str (tx1 r)) = states.map (D.str ∘ tx1) := rfl
  simp only [sm] at bs
  unfold f12
  rw [r_runF rfl]
  simp only [cdD, eRow, eBr] at *
  generalize txA k n states = TX at *
  generalize ((states.length + 2 : Nat) : Int) = L2' at *
  generalize states.map (D.str ∘ tx1) = TS at *
  generalize states.map stD = SS at *
  generalize textOf k = tk' at *
  generalize textOf n = tn' at *
  simp only [d12]
  simp -implicitDefEqProofs [r_bind_ok, r_res_some, r_OBt, s_nil, s_one, k_nx, k_ret, k_brk, k_cnt, s_kill, s_frz, s_set, s_unp, k_unp, s_ifs, k_ifT, k_ifF, s_fr, s_ret, s_ex, s_setix, s_brk, s_cnt, s_pass, e_var, k_var, e_frz, k_frz, e_mv, k_mv, e_cst, k_cst, c_int, c_bl, c_non, c_str, e_op, a_nil, a_cons, e_lend, t_lend, k_lend, k_lendT, e_and, e_or, e_not, t_and, t_or, t_not, t_op, t_var, t_call, t_cio, t_cst, k_andTT, k_andTF, k_orTT, k_orTF, k_andOT, k_andOF, k_orOT, k_orOF, k_notO, e_lst, e_tup, e_call, e_cio, k_cio, k_out, e_cit, k_cit, e_comp, e_idx, k_idx, e_mut, k_mutS1, k_mutO, k_setS1, k_setO, e_slc, o_no, i_rng1, k_rng1, i_ex, k_itrL, r_fl, at0, at1, at2, oEq_int, oEq_str, kSet, kUnp, kRet, kEx, kCons, kCons2, kOp, kTest, kAnd, kOr, kNot, kNotT, kLst, kTup, kCall, kCio, kCit, kCit2, kComp2, kIdx, kMut, kSetix, kSetix2, kSlc, kSlc2, kSlc3, kFor, inits, opSem, oBin, oCmp, setL, okd, flat, truth, getSlots, upto, bindT, bindTs, wipeE, frzE, retC, freeze1, putSlots, nodupB, oB2, mutL, isOwnL, big, full, fullL, lendE_nil, lendE_cons, lendS_none, lendS_some, s_blk, k_blk, k_blkM, mergeE, s_whl, s_inc, k_incO, k_inc2, kInc2, o_so, k_so, ot_so, ot_no, e_callv, t_callv, k_callvS, k_callvL, kCallvR, retN, kChnE, kChnA, kChnB, e_chn, t_chn, k_chnT, k_chnF, kChn3A, kChn3B, kChn3F, e_chn3, t_chn3, k_chn3T, k_chn3F, r_OBr, r_nxE, i_rng3, kR3a, kR3b, kR3c, e_mutp, k_pm3, k_pm2, kPm1, k_pm, s_setp, kSp4, k_sp3, k_sp2, k_sp1, k_sp, pe_k, e_pth, k_pth, k_pth2, ty_str, tk_str, is_ss, lk1, lk2, io_fig, io_iscode, f1', f2', ic, sp, bs, sl, ix0, ix1, ol, l3]
/-! ### _law_same of a thing and itself -/
def sm : Nat → D → Prop
  | 0, _ => False
  | _ + 1, .int _ => True
  | _ + 1, .str _ => True
  | m + 1, .lst ds => ∀ x ∈ ds, sm m x
  | m + 1, .tup ds => ∀ x ∈ ds, sm m x
  | _ + 1, _ => False
def kZ2 (p q : D × Nat) (env : Ev) : Res (List D) := match p.1, q.1 with
  | .lst ds, .lst es => .ok ((ds.zip es).map fun q => D.tup [q.1, q.2]) env
  | .tup ds, .tup es => .ok ((ds.zip es).map fun q => D.tup [q.1, q.2]) env
  | _, _ => .bad
def kZ1 (ρ : Nat → Fn) (b : E) (p : D × Nat) (env : Ev) : Res (List D) := ((evP ρ b).1 env).bind (kZ2 p)
theorem i_zip {ρ : Nat → Fn} {a b : E} {env : Ev} : evI ρ (.zip a b) env = ((evP ρ a).1 env).bind (kZ1 ρ b) := rfl
theorem k_z2l {ds es : List D} {j k : Nat} {env : Ev} : kZ2 (.lst ds, j) (.lst es, k) env = .ok ((ds.zip es).map fun q => D.tup [q.1, q.2]) env := rfl
theorem k_z2t {ds es : List D} {j k : Nat} {env : Ev} : kZ2 (.tup ds, j) (.tup es, k) env = .ok ((ds.zip es).map fun q => D.tup [q.1, q.2]) env := rfl
theorem bb (b : Bool) : oEq (.bl b) (.bl b) = some true := by cases b <;> decide
theorem is_is : isTy "int" "str" = false := by decide
theorem is_ls : isTy "list" "str" = false := by decide
theorem is_li : isTy "list" "int" = false := by decide
theorem is_lt : isTy "list" "tuple" = false := by decide
theorem is_ts : isTy "tuple" "str" = false := by decide
theorem is_ti : isTy "tuple" "int" = false := by decide
theorem is_tl : isTy "tuple" "list" = false := by decide
theorem zip_self {ds : List D} {q : D × D} (h : q ∈ ds.zip ds) : q.1 = q.2 ∧ q.1 ∈ ds := by
  obtain ⟨i, hi⟩ := List.getElem?_of_mem h
  obtain ⟨h1, h2⟩ := List.getElem?_zip_eq_some.mp hi
  rw [h1] at h2
  exact ⟨Option.some.inj h2, List.mem_of_getElem? h1⟩
theorem same_0 : ∀ d : D, sm 0 d → f19.F [(d, 0), (d, 0)] = .ok (.bl true) 0 [] := fun d h => h.elim
theorem same_1 : ∀ d : D, sm 1 d → f20.F [(d, 0), (d, 0)] = .ok (.bl true) 0 [] := by
  intro d h
  have lk : look [f0, f1, f2, f3, f4, f5, f6, f7, f8, f9, f10, f11, f12, f13, f14, f15, f16, f17, f18, f19] 19 = f19 := rfl
  have io : f19.io = 0 := rfl
  have loop : ∀ (E0 : D) (ds : List D), (∀ x ∈ ds, sm 0 x) → ∃ s2 s3 : Pv.Slot, floop (.tp (.cons (.nm 2) (.cons (.nm 3) .nil))) (evS (look [f0, f1, f2, f3, f4, f5, f6, f7, f8, f9, f10, f11, f12, f13, f14, f15, f16, f17, f18, f19]) b20_0) ((ds.zip ds).map fun q => D.tup [q.1, q.2]) [some (E0, 0), some (E0, 0), none, none] = .ok .nx [some (E0, 0), some (E0, 0), s2, s3] := by
    intro E0 ds hd
    obtain ⟨env', h1, s2, s3, rfl⟩ := floop_st (t := .tp (.cons (.nm 2) (.cons (.nm 3) .nil))) (b := evS (look [f0, f1, f2, f3, f4, f5, f6, f7, f8, f9, f10, f11, f12, f13, f14, f15, f16, f17, f18, f19]) b20_0) (fun env => ∃ s2 s3 : Pv.Slot, env = [some (E0, 0), some (E0, 0), s2, s3]) (ds := (ds.zip ds).map fun q => D.tup [q.1, q.2]) (env := [some (E0, 0), some (E0, 0), none, none]) ⟨none, none, rfl⟩ (fun d hdm env ⟨s2, s3, e⟩ => by
      subst e
      obtain ⟨⟨a, b⟩, hq, rfl⟩ := List.mem_map.mp hdm
      obtain ⟨e1, hm⟩ := zip_self hq
      have e1 : a = b := e1
      subst e1
      have ih := same_0 a (hd a hm)
      refine ⟨[some (E0, 0), some (E0, 0), some (a, 0), some (a, 0)], [some (E0, 0), some (E0, 0), some (a, 0), some (a, 0)], rfl, .inl ?_, _, _, rfl⟩
      simp [b20_0, r_bind_ok, r_res_some, r_OBt, s_nil, s_one, k_nx, k_ret, k_brk, k_cnt, s_kill, s_frz, s_set, s_unp, k_unp, s_ifs, k_ifT, k_ifF, s_fr, s_ret, s_ex, s_setix, s_brk, s_cnt, s_pass, e_var, k_var, e_frz, k_frz, e_mv, k_mv, e_cst, k_cst, c_int, c_bl, c_non, c_str, e_op, a_nil, a_cons, e_lend, t_lend, k_lend, k_lendT, e_and, e_or, e_not, t_and, t_or, t_not, t_op, t_var, t_call, t_cio, t_cst, k_andTT, k_andTF, k_orTT, k_orTF, k_andOT, k_andOF, k_orOT, k_orOF, k_notO, e_lst, e_tup, e_call, e_cio, k_cio, k_out, e_cit, k_cit, e_comp, e_idx, k_idx, e_mut, k_mutS1, k_mutO, k_setS1, k_setO, e_slc, o_no, i_rng1, k_rng1, i_ex, k_itrL, r_fl, at0, at1, at2, oEq_int, oEq_str, kSet, kUnp, kRet, kEx, kCons, kCons2, kOp, kTest, kAnd, kOr, kNot, kNotT, kLst, kTup, kCall, kCio, kCit, kCit2, kComp2, kIdx, kMut, kSetix, kSetix2, kSlc, kSlc2, kSlc3, kFor, inits, opSem, oBin, oCmp, oIx, setL, okd, flat, truth, getSlots, upto, bindT, bindTs, wipeE, frzE, retC, freeze1, putSlots, nodupB, oB1, oB2, mutL, isOwnL, big, oMk, oCk, full, fullL, lendE_nil, lendE_cons, lendS_none, lendS_some, s_blk, k_blk, k_blkM, mergeE, s_whl, s_inc, k_incO, k_inc2, kInc2, o_so, k_so, oSlc, ot_so, ot_no, e_callv, t_callv, k_callvS, k_callvL, kCallvR, retN, kChnE, kChnA, kChnB, e_chn, t_chn, k_chnT, k_chnF, kChn3A, kChn3B, kChn3F, e_chn3, t_chn3, k_chn3T, k_chn3F, r_OBr, r_nxE, i_rng3, kR3a, kR3b, kR3c, e_mutp, k_pm3, k_pm2, kPm1, k_pm, s_setp, kSp4, k_sp3, k_sp2, k_sp1, k_sp, pe_k, e_pth, k_pth, k_pth2, lk, io, ih])
    exact ⟨s2, s3, h1⟩
  unfold f20
  rw [r_runF rfl]
  simp only [d20]
  cases d with
  | int i => simp -implicitDefEqProofs [r_bind_ok, r_res_some, r_OBt, s_nil, s_one, k_nx, k_ret, k_brk, k_cnt, s_kill, s_frz, s_set, s_unp, k_unp, s_ifs, k_ifT, k_ifF, s_fr, s_ret, s_ex, s_setix, s_brk, s_cnt, s_pass, e_var, k_var, e_frz, k_frz, e_mv, k_mv, e_cst, k_cst, c_int, c_bl, c_non, c_str, e_op, a_nil, a_cons, e_lend, t_lend, k_lend, k_lendT, e_and, e_or, e_not, t_and, t_or, t_not, t_op, t_var, t_call, t_cio, t_cst, k_andTT, k_andTF, k_orTT, k_orTF, k_andOT, k_andOF, k_orOT, k_orOF, k_notO, e_lst, e_tup, e_call, e_cio, k_cio, k_out, e_cit, k_cit, e_comp, e_idx, k_idx, e_mut, k_mutS1, k_mutO, k_setS1, k_setO, e_slc, o_no, i_rng1, k_rng1, i_ex, k_itrL, r_fl, at0, at1, at2, oEq_int, oEq_str, kSet, kUnp, kRet, kEx, kCons, kCons2, kOp, kTest, kAnd, kOr, kNot, kNotT, kLst, kTup, kCall, kCio, kCit, kCit2, kComp2, kIdx, kMut, kSetix, kSetix2, kSlc, kSlc2, kSlc3, kFor, inits, opSem, oBin, oCmp, oIx, setL, okd, flat, truth, getSlots, upto, bindT, bindTs, wipeE, frzE, retC, freeze1, putSlots, nodupB, oB1, oB2, mutL, isOwnL, big, oMk, oCk, full, fullL, lendE_nil, lendE_cons, lendS_none, lendS_some, s_blk, k_blk, k_blkM, mergeE, s_whl, s_inc, k_incO, k_inc2, kInc2, o_so, k_so, oSlc, ot_so, ot_no, e_callv, t_callv, k_callvS, k_callvL, kCallvR, retN, kChnE, kChnA, kChnB, e_chn, t_chn, k_chnT, k_chnF, kChn3A, kChn3B, kChn3F, e_chn3, t_chn3, k_chn3T, k_chn3F, r_OBr, r_nxE, i_rng3, kR3a, kR3b, kR3c, e_mutp, k_pm3, k_pm2, kPm1, k_pm, s_setp, kSp4, k_sp3, k_sp2, k_sp1, k_sp, pe_k, e_pth, k_pth, k_pth2, ty_int, tk_int, tk_str, tk_bool, is_ii, is_ib, is_is, oEq_int]
  | str s => simp -implicitDefEqProofs [r_bind_ok, r_res_some, r_OBt, s_nil, s_one, k_nx, k_ret, k_brk, k_cnt, s_kill, s_frz, s_set, s_unp, k_unp, s_ifs, k_ifT, k_ifF, s_fr, s_ret, s_ex, s_setix, s_brk, s_cnt, s_pass, e_var, k_var, e_frz, k_frz, e_mv, k_mv, e_cst, k_cst, c_int, c_bl, c_non, c_str, e_op, a_nil, a_cons, e_lend, t_lend, k_lend, k_lendT, e_and, e_or, e_not, t_and, t_or, t_not, t_op, t_var, t_call, t_cio, t_cst, k_andTT, k_andTF, k_orTT, k_orTF, k_andOT, k_andOF, k_orOT, k_orOF, k_notO, e_lst, e_tup, e_call, e_cio, k_cio, k_out, e_cit, k_cit, e_comp, e_idx, k_idx, e_mut, k_mutS1, k_mutO, k_setS1, k_setO, e_slc, o_no, i_rng1, k_rng1, i_ex, k_itrL, r_fl, at0, at1, at2, oEq_int, oEq_str, kSet, kUnp, kRet, kEx, kCons, kCons2, kOp, kTest, kAnd, kOr, kNot, kNotT, kLst, kTup, kCall, kCio, kCit, kCit2, kComp2, kIdx, kMut, kSetix, kSetix2, kSlc, kSlc2, kSlc3, kFor, inits, opSem, oBin, oCmp, oIx, setL, okd, flat, truth, getSlots, upto, bindT, bindTs, wipeE, frzE, retC, freeze1, putSlots, nodupB, oB1, oB2, mutL, isOwnL, big, oMk, oCk, full, fullL, lendE_nil, lendE_cons, lendS_none, lendS_some, s_blk, k_blk, k_blkM, mergeE, s_whl, s_inc, k_incO, k_inc2, kInc2, o_so, k_so, oSlc, ot_so, ot_no, e_callv, t_callv, k_callvS, k_callvL, kCallvR, retN, kChnE, kChnA, kChnB, e_chn, t_chn, k_chnT, k_chnF, kChn3A, kChn3B, kChn3F, e_chn3, t_chn3, k_chn3T, k_chn3F, r_OBr, r_nxE, i_rng3, kR3a, kR3b, kR3c, e_mutp, k_pm3, k_pm2, kPm1, k_pm, s_setp, kSp4, k_sp3, k_sp2, k_sp1, k_sp, pe_k, e_pth, k_pth, k_pth2, ty_str, tk_str, is_ss, oEq_str]
  | lst ds =>
    obtain ⟨s2, s3, e⟩ := loop (.lst ds) ds h
    simp -implicitDefEqProofs [r_bind_ok, r_res_some, r_OBt, s_nil, s_one, k_nx, k_ret, k_brk, k_cnt, s_kill, s_frz, s_set, s_unp, k_unp, s_ifs, k_ifT, k_ifF, s_fr, s_ret, s_ex, s_setix, s_brk, s_cnt, s_pass, e_var, k_var, e_frz, k_frz, e_mv, k_mv, e_cst, k_cst, c_int, c_bl, c_non, c_str, e_op, a_nil, a_cons, e_lend, t_lend, k_lend, k_lendT, e_and, e_or, e_not, t_and, t_or, t_not, t_op, t_var, t_call, t_cio, t_cst, k_andTT, k_andTF, k_orTT, k_orTF, k_andOT, k_andOF, k_orOT, k_orOF, k_notO, e_lst, e_tup, e_call, e_cio, k_cio, k_out, e_cit, k_cit, e_comp, e_idx, k_idx, e_mut, k_mutS1, k_mutO, k_setS1, k_setO, e_slc, o_no, i_rng1, k_rng1, i_ex, k_itrL, r_fl, at0, at1, at2, oEq_int, oEq_str, kSet, kUnp, kRet, kEx, kCons, kCons2, kOp, kTest, kAnd, kOr, kNot, kNotT, kLst, kTup, kCall, kCio, kCit, kCit2, kComp2, kIdx, kMut, kSetix, kSetix2, kSlc, kSlc2, kSlc3, kFor, inits, opSem, oBin, oCmp, oIx, setL, okd, flat, truth, getSlots, upto, bindT, bindTs, wipeE, frzE, retC, freeze1, putSlots, nodupB, oB1, oB2, mutL, isOwnL, big, oMk, oCk, full, fullL, lendE_nil, lendE_cons, lendS_none, lendS_some, s_blk, k_blk, k_blkM, mergeE, s_whl, s_inc, k_incO, k_inc2, kInc2, o_so, k_so, oSlc, ot_so, ot_no, e_callv, t_callv, k_callvS, k_callvL, kCallvR, retN, kChnE, kChnA, kChnB, e_chn, t_chn, k_chnT, k_chnF, kChn3A, kChn3B, kChn3F, e_chn3, t_chn3, k_chn3T, k_chn3F, r_OBr, r_nxE, i_rng3, kR3a, kR3b, kR3c, e_mutp, k_pm3, k_pm2, kPm1, k_pm, s_setp, kSp4, k_sp3, k_sp2, k_sp1, k_sp, pe_k, e_pth, k_pth, k_pth2, ty_lst, tk_str, tk_int, tk_list, tk_tuple, is_ls, is_li, is_ll, is_lt, bb, oEq_int, i_zip, kZ1, k_z2l, e]
  | tup ds =>
    obtain ⟨s2, s3, e⟩ := loop (.tup ds) ds h
    simp -implicitDefEqProofs [r_bind_ok, r_res_some, r_OBt, s_nil, s_one, k_nx, k_ret, k_brk, k_cnt, s_kill, s_frz, s_set, s_unp, k_unp, s_ifs, k_ifT, k_ifF, s_fr, s_ret, s_ex, s_setix, s_brk, s_cnt, s_pass, e_var, k_var, e_frz, k_frz, e_mv, k_mv, e_cst, k_cst, c_int, c_bl, c_non, c_str, e_op, a_nil, a_cons, e_lend, t_lend, k_lend, k_lendT, e_and, e_or, e_not, t_and, t_or, t_not, t_op, t_var, t_call, t_cio, t_cst, k_andTT, k_andTF, k_orTT, k_orTF, k_andOT, k_andOF, k_orOT, k_orOF, k_notO, e_lst, e_tup, e_call, e_cio, k_cio, k_out, e_cit, k_cit, e_comp, e_idx, k_idx, e_mut, k_mutS1, k_mutO, k_setS1, k_setO, e_slc, o_no, i_rng1, k_rng1, i_ex, k_itrL, r_fl, at0, at1, at2, oEq_int, oEq_str, kSet, kUnp, kRet, kEx, kCons, kCons2, kOp, kTest, kAnd, kOr, kNot, kNotT, kLst, kTup, kCall, kCio, kCit, kCit2, kComp2, kIdx, kMut, kSetix, kSetix2, kSlc, kSlc2, kSlc3, kFor, inits, opSem, oBin, oCmp, oIx, setL, okd, flat, truth, getSlots, upto, bindT, bindTs, wipeE, frzE, retC, freeze1, putSlots, nodupB, oB1, oB2, mutL, isOwnL, big, oMk, oCk, full, fullL, lendE_nil, lendE_cons, lendS_none, lendS_some, s_blk, k_blk, k_blkM, mergeE, s_whl, s_inc, k_incO, k_inc2, kInc2, o_so, k_so, oSlc, ot_so, ot_no, e_callv, t_callv, k_callvS, k_callvL, kCallvR, retN, kChnE, kChnA, kChnB, e_chn, t_chn, k_chnT, k_chnF, kChn3A, kChn3B, kChn3F, e_chn3, t_chn3, k_chn3T, k_chn3F, r_OBr, r_nxE, i_rng3, kR3a, kR3b, kR3c, e_mutp, k_pm3, k_pm2, kPm1, k_pm, s_setp, kSp4, k_sp3, k_sp2, k_sp1, k_sp, pe_k, e_pth, k_pth, k_pth2, ty_tup, tk_str, tk_int, tk_list, tk_tuple, is_ts, is_ti, is_tl, is_tt, bb, oEq_int, i_zip, kZ1, k_z2t, e]
  | _ => exact h.elim
theorem same_2 : ∀ d : D, sm 2 d → f21.F [(d, 0), (d, 0)] = .ok (.bl true) 0 [] := by
  intro d h
  have lk : look [f0, f1, f2, f3, f4, f5, f6, f7, f8, f9, f10, f11, f12, f13, f14, f15, f16, f17, f18, f19, f20] 20 = f20 := rfl
  have io : f20.io = 0 := rfl
  have loop : ∀ (E0 : D) (ds : List D), (∀ x ∈ ds, sm 1 x) → ∃ s2 s3 : Pv.Slot, floop (.tp (.cons (.nm 2) (.cons (.nm 3) .nil))) (evS (look [f0, f1, f2, f3, f4, f5, f6, f7, f8, f9, f10, f11, f12, f13, f14, f15, f16, f17, f18, f19, f20]) b21_0) ((ds.zip ds).map fun q => D.tup [q.1, q.2]) [some (E0, 0), some (E0, 0), none, none] = .ok .nx [some (E0, 0), some (E0, 0), s2, s3] := by
    intro E0 ds hd
    obtain ⟨env', h1, s2, s3, rfl⟩ := floop_st (t := .tp (.cons (.nm 2) (.cons (.nm 3) .nil))) (b := evS (look [f0, f1, f2, f3, f4, f5, f6, f7, f8, f9, f10, f11, f12, f13, f14, f15, f16, f17, f18, f19, f20]) b21_0) (fun env => ∃ s2 s3 : Pv.Slot, env = [some (E0, 0), some (E0, 0), s2, s3]) (ds := (ds.zip ds).map fun q => D.tup [q.1, q.2]) (env := [some (E0, 0), some (E0, 0), none, none]) ⟨none, none, rfl⟩ (fun d hdm env ⟨s2, s3, e⟩ => by
      subst e
      obtain ⟨⟨a, b⟩, hq, rfl⟩ := List.mem_map.mp hdm
      obtain ⟨e1, hm⟩ := zip_self hq
      have e1 : a = b := e1
      subst e1
      have ih := same_1 a (hd a hm)
      refine ⟨[some (E0, 0), some (E0, 0), some (a, 0), some (a, 0)], [some (E0, 0), some (E0, 0), some (a, 0), some (a, 0)], rfl, .inl ?_, _, _, rfl⟩
      simp [b21_0, r_bind_ok, r_res_some, r_OBt, s_nil, s_one, k_nx, k_ret, k_brk, k_cnt, s_kill, s_frz, s_set, s_unp, k_unp, s_ifs, k_ifT, k_ifF, s_fr, s_ret, s_ex, s_setix, s_brk, s_cnt, s_pass, e_var, k_var, e_frz, k_frz, e_mv, k_mv, e_cst, k_cst, c_int, c_bl, c_non, c_str, e_op, a_nil, a_cons, e_lend, t_lend, k_lend, k_lendT, e_and, e_or, e_not, t_and, t_or, t_not, t_op, t_var, t_call, t_cio, t_cst, k_andTT, k_andTF, k_orTT, k_orTF, k_andOT, k_andOF, k_orOT, k_orOF, k_notO, e_lst, e_tup, e_call, e_cio, k_cio, k_out, e_cit, k_cit, e_comp, e_idx, k_idx, e_mut, k_mutS1, k_mutO, k_setS1, k_setO, e_slc, o_no, i_rng1, k_rng1, i_ex, k_itrL, r_fl, at0, at1, at2, oEq_int, oEq_str, kSet, kUnp, kRet, kEx, kCons, kCons2, kOp, kTest, kAnd, kOr, kNot, kNotT, kLst, kTup, kCall, kCio, kCit, kCit2, kComp2, kIdx, kMut, kSetix, kSetix2, kSlc, kSlc2, kSlc3, kFor, inits, opSem, oBin, oCmp, oIx, setL, okd, flat, truth, getSlots, upto, bindT, bindTs, wipeE, frzE, retC, freeze1, putSlots, nodupB, oB1, oB2, mutL, isOwnL, big, oMk, oCk, full, fullL, lendE_nil, lendE_cons, lendS_none, lendS_some, s_blk, k_blk, k_blkM, mergeE, s_whl, s_inc, k_incO, k_inc2, kInc2, o_so, k_so, oSlc, ot_so, ot_no, e_callv, t_callv, k_callvS, k_callvL, kCallvR, retN, kChnE, kChnA, kChnB, e_chn, t_chn, k_chnT, k_chnF, kChn3A, kChn3B, kChn3F, e_chn3, t_chn3, k_chn3T, k_chn3F, r_OBr, r_nxE, i_rng3, kR3a, kR3b, kR3c, e_mutp, k_pm3, k_pm2, kPm1, k_pm, s_setp, kSp4, k_sp3, k_sp2, k_sp1, k_sp, pe_k, e_pth, k_pth, k_pth2, lk, io, ih])
    exact ⟨s2, s3, h1⟩
  unfold f21
  rw [r_runF rfl]
  simp only [d21]
  cases d with
  | int i => simp -implicitDefEqProofs [r_bind_ok, r_res_some, r_OBt, s_nil, s_one, k_nx, k_ret, k_brk, k_cnt, s_kill, s_frz, s_set, s_unp, k_unp, s_ifs, k_ifT, k_ifF, s_fr, s_ret, s_ex, s_setix, s_brk, s_cnt, s_pass, e_var, k_var, e_frz, k_frz, e_mv, k_mv, e_cst, k_cst, c_int, c_bl, c_non, c_str, e_op, a_nil, a_cons, e_lend, t_lend, k_lend, k_lendT, e_and, e_or, e_not, t_and, t_or, t_not, t_op, t_var, t_call, t_cio, t_cst, k_andTT, k_andTF, k_orTT, k_orTF, k_andOT, k_andOF, k_orOT, k_orOF, k_notO, e_lst, e_tup, e_call, e_cio, k_cio, k_out, e_cit, k_cit, e_comp, e_idx, k_idx, e_mut, k_mutS1, k_mutO, k_setS1, k_setO, e_slc, o_no, i_rng1, k_rng1, i_ex, k_itrL, r_fl, at0, at1, at2, oEq_int, oEq_str, kSet, kUnp, kRet, kEx, kCons, kCons2, kOp, kTest, kAnd, kOr, kNot, kNotT, kLst, kTup, kCall, kCio, kCit, kCit2, kComp2, kIdx, kMut, kSetix, kSetix2, kSlc, kSlc2, kSlc3, kFor, inits, opSem, oBin, oCmp, oIx, setL, okd, flat, truth, getSlots, upto, bindT, bindTs, wipeE, frzE, retC, freeze1, putSlots, nodupB, oB1, oB2, mutL, isOwnL, big, oMk, oCk, full, fullL, lendE_nil, lendE_cons, lendS_none, lendS_some, s_blk, k_blk, k_blkM, mergeE, s_whl, s_inc, k_incO, k_inc2, kInc2, o_so, k_so, oSlc, ot_so, ot_no, e_callv, t_callv, k_callvS, k_callvL, kCallvR, retN, kChnE, kChnA, kChnB, e_chn, t_chn, k_chnT, k_chnF, kChn3A, kChn3B, kChn3F, e_chn3, t_chn3, k_chn3T, k_chn3F, r_OBr, r_nxE, i_rng3, kR3a, kR3b, kR3c, e_mutp, k_pm3, k_pm2, kPm1, k_pm, s_setp, kSp4, k_sp3, k_sp2, k_sp1, k_sp, pe_k, e_pth, k_pth, k_pth2, ty_int, tk_int, tk_str, tk_bool, is_ii, is_ib, is_is, oEq_int]
  | str s => simp -implicitDefEqProofs [r_bind_ok, r_res_some, r_OBt, s_nil, s_one, k_nx, k_ret, k_brk, k_cnt, s_kill, s_frz, s_set, s_unp, k_unp, s_ifs, k_ifT, k_ifF, s_fr, s_ret, s_ex, s_setix, s_brk, s_cnt, s_pass, e_var, k_var, e_frz, k_frz, e_mv, k_mv, e_cst, k_cst, c_int, c_bl, c_non, c_str, e_op, a_nil, a_cons, e_lend, t_lend, k_lend, k_lendT, e_and, e_or, e_not, t_and, t_or, t_not, t_op, t_var, t_call, t_cio, t_cst, k_andTT, k_andTF, k_orTT, k_orTF, k_andOT, k_andOF, k_orOT, k_orOF, k_notO, e_lst, e_tup, e_call, e_cio, k_cio, k_out, e_cit, k_cit, e_comp, e_idx, k_idx, e_mut, k_mutS1, k_mutO, k_setS1, k_setO, e_slc, o_no, i_rng1, k_rng1, i_ex, k_itrL, r_fl, at0, at1, at2, oEq_int, oEq_str, kSet, kUnp, kRet, kEx, kCons, kCons2, kOp, kTest, kAnd, kOr, kNot, kNotT, kLst, kTup, kCall, kCio, kCit, kCit2, kComp2, kIdx, kMut, kSetix, kSetix2, kSlc, kSlc2, kSlc3, kFor, inits, opSem, oBin, oCmp, oIx, setL, okd, flat, truth, getSlots, upto, bindT, bindTs, wipeE, frzE, retC, freeze1, putSlots, nodupB, oB1, oB2, mutL, isOwnL, big, oMk, oCk, full, fullL, lendE_nil, lendE_cons, lendS_none, lendS_some, s_blk, k_blk, k_blkM, mergeE, s_whl, s_inc, k_incO, k_inc2, kInc2, o_so, k_so, oSlc, ot_so, ot_no, e_callv, t_callv, k_callvS, k_callvL, kCallvR, retN, kChnE, kChnA, kChnB, e_chn, t_chn, k_chnT, k_chnF, kChn3A, kChn3B, kChn3F, e_chn3, t_chn3, k_chn3T, k_chn3F, r_OBr, r_nxE, i_rng3, kR3a, kR3b, kR3c, e_mutp, k_pm3, k_pm2, kPm1, k_pm, s_setp, kSp4, k_sp3, k_sp2, k_sp1, k_sp, pe_k, e_pth, k_pth, k_pth2, ty_str, tk_str, is_ss, oEq_str]
  | lst ds =>
    obtain ⟨s2, s3, e⟩ := loop (.lst ds) ds h
    simp -implicitDefEqProofs [r_bind_ok, r_res_some, r_OBt, s_nil, s_one, k_nx, k_ret, k_brk, k_cnt, s_kill, s_frz, s_set, s_unp, k_unp, s_ifs, k_ifT, k_ifF, s_fr, s_ret, s_ex, s_setix, s_brk, s_cnt, s_pass, e_var, k_var, e_frz, k_frz, e_mv, k_mv, e_cst, k_cst, c_int, c_bl, c_non, c_str, e_op, a_nil, a_cons, e_lend, t_lend, k_lend, k_lendT, e_and, e_or, e_not, t_and, t_or, t_not, t_op, t_var, t_call, t_cio, t_cst, k_andTT, k_andTF, k_orTT, k_orTF, k_andOT, k_andOF, k_orOT, k_orOF, k_notO, e_lst, e_tup, e_call, e_cio, k_cio, k_out, e_cit, k_cit, e_comp, e_idx, k_idx, e_mut, k_mutS1, k_mutO, k_setS1, k_setO, e_slc, o_no, i_rng1, k_rng1, i_ex, k_itrL, r_fl, at0, at1, at2, oEq_int, oEq_str, kSet, kUnp, kRet, kEx, kCons, kCons2, kOp, kTest, kAnd, kOr, kNot, kNotT, kLst, kTup, kCall, kCio, kCit, kCit2, kComp2, kIdx, kMut, kSetix, kSetix2, kSlc, kSlc2, kSlc3, kFor, inits, opSem, oBin, oCmp, oIx, setL, okd, flat, truth, getSlots, upto, bindT, bindTs, wipeE, frzE, retC, freeze1, putSlots, nodupB, oB1, oB2, mutL, isOwnL, big, oMk, oCk, full, fullL, lendE_nil, lendE_cons, lendS_none, lendS_some, s_blk, k_blk, k_blkM, mergeE, s_whl, s_inc, k_incO, k_inc2, kInc2, o_so, k_so, oSlc, ot_so, ot_no, e_callv, t_callv, k_callvS, k_callvL, kCallvR, retN, kChnE, kChnA, kChnB, e_chn, t_chn, k_chnT, k_chnF, kChn3A, kChn3B, kChn3F, e_chn3, t_chn3, k_chn3T, k_chn3F, r_OBr, r_nxE, i_rng3, kR3a, kR3b, kR3c, e_mutp, k_pm3, k_pm2, kPm1, k_pm, s_setp, kSp4, k_sp3, k_sp2, k_sp1, k_sp, pe_k, e_pth, k_pth, k_pth2, ty_lst, tk_str, tk_int, tk_list, tk_tuple, is_ls, is_li, is_ll, is_lt, bb, oEq_int, i_zip, kZ1, k_z2l, e]
  | tup ds =>
    obtain ⟨s2, s3, e⟩ := loop (.tup ds) ds h
    simp -implicitDefEqProofs [r_bind_ok, r_res_some, r_OBt, s_nil, s_one, k_nx, k_ret, k_brk, k_cnt, s_kill, s_frz, s_set, s_unp, k_unp, s_ifs, k_ifT, k_ifF, s_fr, s_ret, s_ex, s_setix, s_brk, s_cnt, s_pass, e_var, k_var, e_frz, k_frz, e_mv, k_mv, e_cst, k_cst, c_int, c_bl, c_non, c_str, e_op, a_nil, a_cons, e_lend, t_lend, k_lend, k_lendT, e_and, e_or, e_not, t_and, t_or, t_not, t_op, t_var, t_call, t_cio, t_cst, k_andTT, k_andTF, k_orTT, k_orTF, k_andOT, k_andOF, k_orOT, k_orOF, k_notO, e_lst, e_tup, e_call, e_cio, k_cio, k_out, e_cit, k_cit, e_comp, e_idx, k_idx, e_mut, k_mutS1, k_mutO, k_setS1, k_setO, e_slc, o_no, i_rng1, k_rng1, i_ex, k_itrL, r_fl, at0, at1, at2, oEq_int, oEq_str, kSet, kUnp, kRet, kEx, kCons, kCons2, kOp, kTest, kAnd, kOr, kNot, kNotT, kLst, kTup, kCall, kCio, kCit, kCit2, kComp2, kIdx, kMut, kSetix, kSetix2, kSlc, kSlc2, kSlc3, kFor, inits, opSem, oBin, oCmp, oIx, setL, okd, flat, truth, getSlots, upto, bindT, bindTs, wipeE, frzE, retC, freeze1, putSlots, nodupB, oB1, oB2, mutL, isOwnL, big, oMk, oCk, full, fullL, lendE_nil, lendE_cons, lendS_none, lendS_some, s_blk, k_blk, k_blkM, mergeE, s_whl, s_inc, k_incO, k_inc2, kInc2, o_so, k_so, oSlc, ot_so, ot_no, e_callv, t_callv, k_callvS, k_callvL, kCallvR, retN, kChnE, kChnA, kChnB, e_chn, t_chn, k_chnT, k_chnF, kChn3A, kChn3B, kChn3F, e_chn3, t_chn3, k_chn3T, k_chn3F, r_OBr, r_nxE, i_rng3, kR3a, kR3b, kR3c, e_mutp, k_pm3, k_pm2, kPm1, k_pm, s_setp, kSp4, k_sp3, k_sp2, k_sp1, k_sp, pe_k, e_pth, k_pth, k_pth2, ty_tup, tk_str, tk_int, tk_list, tk_tuple, is_ts, is_ti, is_tl, is_tt, bb, oEq_int, i_zip, kZ1, k_z2t, e]
  | _ => exact h.elim
theorem same_3 : ∀ d : D, sm 3 d → f22.F [(d, 0), (d, 0)] = .ok (.bl true) 0 [] := by
  intro d h
  have lk : look [f0, f1, f2, f3, f4, f5, f6, f7, f8, f9, f10, f11, f12, f13, f14, f15, f16, f17, f18, f19, f20, f21] 21 = f21 := rfl
  have io : f21.io = 0 := rfl
  have loop : ∀ (E0 : D) (ds : List D), (∀ x ∈ ds, sm 2 x) → ∃ s2 s3 : Pv.Slot, floop (.tp (.cons (.nm 2) (.cons (.nm 3) .nil))) (evS (look [f0, f1, f2, f3, f4, f5, f6, f7, f8, f9, f10, f11, f12, f13, f14, f15, f16, f17, f18, f19, f20, f21]) b22_0) ((ds.zip ds).map fun q => D.tup [q.1, q.2]) [some (E0, 0), some (E0, 0), none, none] = .ok .nx [some (E0, 0), some (E0, 0), s2, s3] := by
    intro E0 ds hd
    obtain ⟨env', h1, s2, s3, rfl⟩ := floop_st (t := .tp (.cons (.nm 2) (.cons (.nm 3) .nil))) (b := evS (look [f0, f1, f2, f3, f4, f5, f6, f7, f8, f9, f10, f11, f12, f13, f14, f15, f16, f17, f18, f19, f20, f21]) b22_0) (fun env => ∃ s2 s3 : Pv.Slot, env = [some (E0, 0), some (E0, 0), s2, s3]) (ds := (ds.zip ds).map fun q => D.tup [q.1, q.2]) (env := [some (E0, 0), some (E0, 0), none, none]) ⟨none, none, rfl⟩ (fun d hdm env ⟨s2, s3, e⟩ => by
      subst e
      obtain ⟨⟨a, b⟩, hq, rfl⟩ := List.mem_map.mp hdm
      obtain ⟨e1, hm⟩ := zip_self hq
      have e1 : a = b := e1
      subst e1
      have ih := same_2 a (hd a hm)
      refine ⟨[some (E0, 0), some (E0, 0), some (a, 0), some (a, 0)], [some (E0, 0), some (E0, 0), some (a, 0), some (a, 0)], rfl, .inl ?_, _, _, rfl⟩
      simp [b22_0, r_bind_ok, r_res_some, r_OBt, s_nil, s_one, k_nx, k_ret, k_brk, k_cnt, s_kill, s_frz, s_set, s_unp, k_unp, s_ifs, k_ifT, k_ifF, s_fr, s_ret, s_ex, s_setix, s_brk, s_cnt, s_pass, e_var, k_var, e_frz, k_frz, e_mv, k_mv, e_cst, k_cst, c_int, c_bl, c_non, c_str, e_op, a_nil, a_cons, e_lend, t_lend, k_lend, k_lendT, e_and, e_or, e_not, t_and, t_or, t_not, t_op, t_var, t_call, t_cio, t_cst, k_andTT, k_andTF, k_orTT, k_orTF, k_andOT, k_andOF, k_orOT, k_orOF, k_notO, e_lst, e_tup, e_call, e_cio, k_cio, k_out, e_cit, k_cit, e_comp, e_idx, k_idx, e_mut, k_mutS1, k_mutO, k_setS1, k_setO, e_slc, o_no, i_rng1, k_rng1, i_ex, k_itrL, r_fl, at0, at1, at2, oEq_int, oEq_str, kSet, kUnp, kRet, kEx, kCons, kCons2, kOp, kTest, kAnd, kOr, kNot, kNotT, kLst, kTup, kCall, kCio, kCit, kCit2, kComp2, kIdx, kMut, kSetix, kSetix2, kSlc, kSlc2, kSlc3, kFor, inits, opSem, oBin, oCmp, oIx, setL, okd, flat, truth, getSlots, upto, bindT, bindTs, wipeE, frzE, retC, freeze1, putSlots, nodupB, oB1, oB2, mutL, isOwnL, big, oMk, oCk, full, fullL, lendE_nil, lendE_cons, lendS_none, lendS_some, s_blk, k_blk, k_blkM, mergeE, s_whl, s_inc, k_incO, k_inc2, kInc2, o_so, k_so, oSlc, ot_so, ot_no, e_callv, t_callv, k_callvS, k_callvL, kCallvR, retN, kChnE, kChnA, kChnB, e_chn, t_chn, k_chnT, k_chnF, kChn3A, kChn3B, kChn3F, e_chn3, t_chn3, k_chn3T, k_chn3F, r_OBr, r_nxE, i_rng3, kR3a, kR3b, kR3c, e_mutp, k_pm3, k_pm2, kPm1, k_pm, s_setp, kSp4, k_sp3, k_sp2, k_sp1, k_sp, pe_k, e_pth, k_pth, k_pth2, lk, io, ih])
    exact ⟨s2, s3, h1⟩
  unfold f22
  rw [r_runF rfl]
  simp only [d22]
  cases d with
  | int i => simp -implicitDefEqProofs [r_bind_ok, r_res_some, r_OBt, s_nil, s_one, k_nx, k_ret, k_brk, k_cnt, s_kill, s_frz, s_set, s_unp, k_unp, s_ifs, k_ifT, k_ifF, s_fr, s_ret, s_ex, s_setix, s_brk, s_cnt, s_pass, e_var, k_var, e_frz, k_frz, e_mv, k_mv, e_cst, k_cst, c_int, c_bl, c_non, c_str, e_op, a_nil, a_cons, e_lend, t_lend, k_lend, k_lendT, e_and, e_or, e_not, t_and, t_or, t_not, t_op, t_var, t_call, t_cio, t_cst, k_andTT, k_andTF, k_orTT, k_orTF, k_andOT, k_andOF, k_orOT, k_orOF, k_notO, e_lst, e_tup, e_call, e_cio, k_cio, k_out, e_cit, k_cit, e_comp, e_idx, k_idx, e_mut, k_mutS1, k_mutO, k_setS1, k_setO, e_slc, o_no, i_rng1, k_rng1, i_ex, k_itrL, r_fl, at0, at1, at2, oEq_int, oEq_str, kSet, kUnp, kRet, kEx, kCons, kCons2, kOp, kTest, kAnd, kOr, kNot, kNotT, kLst, kTup, kCall, kCio, kCit, kCit2, kComp2, kIdx, kMut, kSetix, kSetix2, kSlc, kSlc2, kSlc3, kFor, inits, opSem, oBin, oCmp, oIx, setL, okd, flat, truth, getSlots, upto, bindT, bindTs, wipeE, frzE, retC, freeze1, putSlots, nodupB, oB1, oB2, mutL, isOwnL, big, oMk, oCk, full, fullL, lendE_nil, lendE_cons, lendS_none, lendS_some, s_blk, k_blk, k_blkM, mergeE, s_whl, s_inc, k_incO, k_inc2, kInc2, o_so, k_so, oSlc, ot_so, ot_no, e_callv, t_callv, k_callvS, k_callvL, kCallvR, retN, kChnE, kChnA, kChnB, e_chn, t_chn, k_chnT, k_chnF, kChn3A, kChn3B, kChn3F, e_chn3, t_chn3, k_chn3T, k_chn3F, r_OBr, r_nxE, i_rng3, kR3a, kR3b, kR3c, e_mutp, k_pm3, k_pm2, kPm1, k_pm, s_setp, kSp4, k_sp3, k_sp2, k_sp1, k_sp, pe_k, e_pth, k_pth, k_pth2, ty_int, tk_int, tk_str, tk_bool, is_ii, is_ib, is_is, oEq_int]
  | str s => simp -implicitDefEqProofs [r_bind_ok, r_res_some, r_OBt, s_nil, s_one, k_nx, k_ret, k_brk, k_cnt, s_kill, s_frz, s_set, s_unp, k_unp, s_ifs, k_ifT, k_ifF, s_fr, s_ret, s_ex, s_setix, s_brk, s_cnt, s_pass, e_var, k_var, e_frz, k_frz, e_mv, k_mv, e_cst, k_cst, c_int, c_bl, c_non, c_str, e_op, a_nil, a_cons, e_lend, t_lend, k_lend, k_lendT, e_and, e_or, e_not, t_and, t_or, t_not, t_op, t_var, t_call, t_cio, t_cst, k_andTT, k_andTF, k_orTT, k_orTF, k_andOT, k_andOF, k_orOT, k_orOF, k_notO, e_lst, e_tup, e_call, e_cio, k_cio, k_out, e_cit, k_cit, e_comp, e_idx, k_idx, e_mut, k_mutS1, k_mutO, k_setS1, k_setO, e_slc, o_no, i_rng1, k_rng1, i_ex, k_itrL, r_fl, at0, at1, at2, oEq_int, oEq_str, kSet, kUnp, kRet, kEx, kCons, kCons2, kOp, kTest, kAnd, kOr, kNot, kNotT, kLst, kTup, kCall, kCio, kCit, kCit2, kComp2, kIdx, kMut, kSetix, kSetix2, kSlc, kSlc2, kSlc3, kFor, inits, opSem, oBin, oCmp, oIx, setL, okd, flat, truth, getSlots, upto, bindT, bindTs, wipeE, frzE, retC, freeze1, putSlots, nodupB, oB1, oB2, mutL, isOwnL, big, oMk, oCk, full, fullL, lendE_nil, lendE_cons, lendS_none, lendS_some, s_blk, k_blk, k_blkM, mergeE, s_whl, s_inc, k_incO, k_inc2, kInc2, o_so, k_so, oSlc, ot_so, ot_no, e_callv, t_callv, k_callvS, k_callvL, kCallvR, retN, kChnE, kChnA, kChnB, e_chn, t_chn, k_chnT, k_chnF, kChn3A, kChn3B, kChn3F, e_chn3, t_chn3, k_chn3T, k_chn3F, r_OBr, r_nxE, i_rng3, kR3a, kR3b, kR3c, e_mutp, k_pm3, k_pm2, kPm1, k_pm, s_setp, kSp4, k_sp3, k_sp2, k_sp1, k_sp, pe_k, e_pth, k_pth, k_pth2, ty_str, tk_str, is_ss, oEq_str]
  | lst ds =>
    obtain ⟨s2, s3, e⟩ := loop (.lst ds) ds h
    simp -implicitDefEqProofs [r_bind_ok, r_res_some, r_OBt, s_nil, s_one, k_nx, k_ret, k_brk, k_cnt, s_kill, s_frz, s_set, s_unp, k_unp, s_ifs, k_ifT, k_ifF, s_fr, s_ret, s_ex, s_setix, s_brk, s_cnt, s_pass, e_var, k_var, e_frz, k_frz, e_mv, k_mv, e_cst, k_cst, c_int, c_bl, c_non, c_str, e_op, a_nil, a_cons, e_lend, t_lend, k_lend, k_lendT, e_and, e_or, e_not, t_and, t_or, t_not, t_op, t_var, t_call, t_cio, t_cst, k_andTT, k_andTF, k_orTT, k_orTF, k_andOT, k_andOF, k_orOT, k_orOF, k_notO, e_lst, e_tup, e_call, e_cio, k_cio, k_out, e_cit, k_cit, e_comp, e_idx, k_idx, e_mut, k_mutS1, k_mutO, k_setS1, k_setO, e_slc, o_no, i_rng1, k_rng1, i_ex, k_itrL, r_fl, at0, at1, at2, oEq_int, oEq_str, kSet, kUnp, kRet, kEx, kCons, kCons2, kOp, kTest, kAnd, kOr, kNot, kNotT, kLst, kTup, kCall, kCio, kCit, kCit2, kComp2, kIdx, kMut, kSetix, kSetix2, kSlc, kSlc2, kSlc3, kFor, inits, opSem, oBin, oCmp, oIx, setL, okd, flat, truth, getSlots, upto, bindT, bindTs, wipeE, frzE, retC, freeze1, putSlots, nodupB, oB1, oB2, mutL, isOwnL, big, oMk, oCk, full, fullL, lendE_nil, lendE_cons, lendS_none, lendS_some, s_blk, k_blk, k_blkM, mergeE, s_whl, s_inc, k_incO, k_inc2, kInc2, o_so, k_so, oSlc, ot_so, ot_no, e_callv, t_callv, k_callvS, k_callvL, kCallvR, retN, kChnE, kChnA, kChnB, e_chn, t_chn, k_chnT, k_chnF, kChn3A, kChn3B, kChn3F, e_chn3, t_chn3, k_chn3T, k_chn3F, r_OBr, r_nxE, i_rng3, kR3a, kR3b, kR3c, e_mutp, k_pm3, k_pm2, kPm1, k_pm, s_setp, kSp4, k_sp3, k_sp2, k_sp1, k_sp, pe_k, e_pth, k_pth, k_pth2, ty_lst, tk_str, tk_int, tk_list, tk_tuple, is_ls, is_li, is_ll, is_lt, bb, oEq_int, i_zip, kZ1, k_z2l, e]
  | tup ds =>
    obtain ⟨s2, s3, e⟩ := loop (.tup ds) ds h
    simp -implicitDefEqProofs [r_bind_ok, r_res_some, r_OBt, s_nil, s_one, k_nx, k_ret, k_brk, k_cnt, s_kill, s_frz, s_set, s_unp, k_unp, s_ifs, k_ifT, k_ifF, s_fr, s_ret, s_ex, s_setix, s_brk, s_cnt, s_pass, e_var, k_var, e_frz, k_frz, e_mv, k_mv, e_cst, k_cst, c_int, c_bl, c_non, c_str, e_op, a_nil, a_cons, e_lend, t_lend, k_lend, k_lendT, e_and, e_or, e_not, t_and, t_or, t_not, t_op, t_var, t_call, t_cio, t_cst, k_andTT, k_andTF, k_orTT, k_orTF, k_andOT, k_andOF, k_orOT, k_orOF, k_notO, e_lst, e_tup, e_call, e_cio, k_cio, k_out, e_cit, k_cit, e_comp, e_idx, k_idx, e_mut, k_mutS1, k_mutO, k_setS1, k_setO, e_slc, o_no, i_rng1, k_rng1, i_ex, k_itrL, r_fl, at0, at1, at2, oEq_int, oEq_str, kSet, kUnp, kRet, kEx, kCons, kCons2, kOp, kTest, kAnd, kOr, kNot, kNotT, kLst, kTup, kCall, kCio, kCit, kCit2, kComp2, kIdx, kMut, kSetix, kSetix2, kSlc, kSlc2, kSlc3, kFor, inits, opSem, oBin, oCmp, oIx, setL, okd, flat, truth, getSlots, upto, bindT, bindTs, wipeE, frzE, retC, freeze1, putSlots, nodupB, oB1, oB2, mutL, isOwnL, big, oMk, oCk, full, fullL, lendE_nil, lendE_cons, lendS_none, lendS_some, s_blk, k_blk, k_blkM, mergeE, s_whl, s_inc, k_incO, k_inc2, kInc2, o_so, k_so, oSlc, ot_so, ot_no, e_callv, t_callv, k_callvS, k_callvL, kCallvR, retN, kChnE, kChnA, kChnB, e_chn, t_chn, k_chnT, k_chnF, kChn3A, kChn3B, kChn3F, e_chn3, t_chn3, k_chn3T, k_chn3F, r_OBr, r_nxE, i_rng3, kR3a, kR3b, kR3c, e_mutp, k_pm3, k_pm2, kPm1, k_pm, s_setp, kSp4, k_sp3, k_sp2, k_sp1, k_sp, pe_k, e_pth, k_pth, k_pth2, ty_tup, tk_str, tk_int, tk_list, tk_tuple, is_ts, is_ti, is_tl, is_tt, bb, oEq_int, i_zip, kZ1, k_z2t, e]
  | _ => exact h.elim
theorem same_4 : ∀ d : D, sm 4 d → f23.F [(d, 0), (d, 0)] = .ok (.bl true) 0 [] := by
  intro d h
  have lk : look [f0, f1, f2, f3, f4, f5, f6, f7, f8, f9, f10, f11, f12, f13, f14, f15, f16, f17, f18, f19, f20, f21, f22] 22 = f22 := rfl
  have io : f22.io = 0 := rfl
  have loop : ∀ (E0 : D) (ds : List D), (∀ x ∈ ds, sm 3 x) → ∃ s2 s3 : Pv.Slot, floop (.tp (.cons (.nm 2) (.cons (.nm 3) .nil))) (evS (look [f0, f1, f2, f3, f4, f5, f6, f7, f8, f9, f10, f11, f12, f13, f14, f15, f16, f17, f18, f19, f20, f21, f22]) b23_0) ((ds.zip ds).map fun q => D.tup [q.1, q.2]) [some (E0, 0), some (E0, 0), none, none] = .ok .nx [some (E0, 0), some (E0, 0), s2, s3] := by
    intro E0 ds hd
    obtain ⟨env', h1, s2, s3, rfl⟩ := floop_st (t := .tp (.cons (.nm 2) (.cons (.nm 3) .nil))) (b := evS (look [f0, f1, f2, f3, f4, f5, f6, f7, f8, f9, f10, f11, f12, f13, f14, f15, f16, f17, f18, f19, f20, f21, f22]) b23_0) (fun env => ∃ s2 s3 : Pv.Slot, env = [some (E0, 0), some (E0, 0), s2, s3]) (ds := (ds.zip ds).map fun q => D.tup [q.1, q.2]) (env := [some (E0, 0), some (E0, 0), none, none]) ⟨none, none, rfl⟩ (fun d hdm env ⟨s2, s3, e⟩ => by
      subst e
      obtain ⟨⟨a, b⟩, hq, rfl⟩ := List.mem_map.mp hdm
      obtain ⟨e1, hm⟩ := zip_self hq
      have e1 : a = b := e1
      subst e1
      have ih := same_3 a (hd a hm)
      refine ⟨[some (E0, 0), some (E0, 0), some (a, 0), some (a, 0)], [some (E0, 0), some (E0, 0), some (a, 0), some (a, 0)], rfl, .inl ?_, _, _, rfl⟩
      simp [b23_0, r_bind_ok, r_res_some, r_OBt, s_nil, s_one, k_nx, k_ret, k_brk, k_cnt, s_kill, s_frz, s_set, s_unp, k_unp, s_ifs, k_ifT, k_ifF, s_fr, s_ret, s_ex, s_setix, s_brk, s_cnt, s_pass, e_var, k_var, e_frz, k_frz, e_mv, k_mv, e_cst, k_cst, c_int, c_bl, c_non, c_str, e_op, a_nil, a_cons, e_lend, t_lend, k_lend, k_lendT, e_and, e_or, e_not, t_and, t_or, t_not, t_op, t_var, t_call, t_cio, t_cst, k_andTT, k_andTF, k_orTT, k_orTF, k_andOT, k_andOF, k_orOT, k_orOF, k_notO, e_lst, e_tup, e_call, e_cio, k_cio, k_out, e_cit, k_cit, e_comp, e_idx, k_idx, e_mut, k_mutS1, k_mutO, k_setS1, k_setO, e_slc, o_no, i_rng1, k_rng1, i_ex, k_itrL, r_fl, at0, at1, at2, oEq_int, oEq_str, kSet, kUnp, kRet, kEx, kCons, kCons2, kOp, kTest, kAnd, kOr, kNot, kNotT, kLst, kTup, kCall, kCio, kCit, kCit2, kComp2, kIdx, kMut, kSetix, kSetix2, kSlc, kSlc2, kSlc3, kFor, inits, opSem, oBin, oCmp, oIx, setL, okd, flat, truth, getSlots, upto, bindT, bindTs, wipeE, frzE, retC, freeze1, putSlots, nodupB, oB1, oB2, mutL, isOwnL, big, oMk, oCk, full, fullL, lendE_nil, lendE_cons, lendS_none, lendS_some, s_blk, k_blk, k_blkM, mergeE, s_whl, s_inc, k_incO, k_inc2, kInc2, o_so, k_so, oSlc, ot_so, ot_no, e_callv, t_callv, k_callvS, k_callvL, kCallvR, retN, kChnE, kChnA, kChnB, e_chn, t_chn, k_chnT, k_chnF, kChn3A, kChn3B, kChn3F, e_chn3, t_chn3, k_chn3T, k_chn3F, r_OBr, r_nxE, i_rng3, kR3a, kR3b, kR3c, e_mutp, k_pm3, k_pm2, kPm1, k_pm, s_setp, kSp4, k_sp3, k_sp2, k_sp1, k_sp, pe_k, e_pth, k_pth, k_pth2, lk, io, ih])
    exact ⟨s2, s3, h1⟩
  unfold f23
  rw [r_runF rfl]
  simp only [d23]
  cases d with
  | int i => simp -implicitDefEqProofs [r_bind_ok, r_res_some, r_OBt, s_nil, s_one, k_nx, k_ret, k_brk, k_cnt, s_kill, s_frz, s_set, s_unp, k_unp, s_ifs, k_ifT, k_ifF, s_fr, s_ret, s_ex, s_setix, s_brk, s_cnt, s_pass, e_var, k_var, e_frz, k_frz, e_mv, k_mv, e_cst, k_cst, c_int, c_bl, c_non, c_str, e_op, a_nil, a_cons, e_lend, t_lend, k_lend, k_lendT, e_and, e_or, e_not, t_and, t_or, t_not, t_op, t_var, t_call, t_cio, t_cst, k_andTT, k_andTF, k_orTT, k_orTF, k_andOT, k_andOF, k_orOT, k_orOF, k_notO, e_lst, e_tup, e_call, e_cio, k_cio, k_out, e_cit, k_cit, e_comp, e_idx, k_idx, e_mut, k_mutS1, k_mutO, k_setS1, k_setO, e_slc, o_no, i_rng1, k_rng1, i_ex, k_itrL, r_fl, at0, at1, at2, oEq_int, oEq_str, kSet, kUnp, kRet, kEx, kCons, kCons2, kOp, kTest, kAnd, kOr, kNot, kNotT, kLst, kTup, kCall, kCio, kCit, kCit2, kComp2, kIdx, kMut, kSetix, kSetix2, kSlc, kSlc2, kSlc3, kFor, inits, opSem, oBin, oCmp, oIx, setL, okd, flat, truth, getSlots, upto, bindT, bindTs, wipeE, frzE, retC, freeze1, putSlots, nodupB, oB1, oB2, mutL, isOwnL, big, oMk, oCk, full, fullL, lendE_nil, lendE_cons, lendS_none, lendS_some, s_blk, k_blk, k_blkM, mergeE, s_whl, s_inc, k_incO, k_inc2, kInc2, o_so, k_so, oSlc, ot_so, ot_no, e_callv, t_callv, k_callvS, k_callvL, kCallvR, retN, kChnE, kChnA, kChnB, e_chn, t_chn, k_chnT, k_chnF, kChn3A, kChn3B, kChn3F, e_chn3, t_chn3, k_chn3T, k_chn3F, r_OBr, r_nxE, i_rng3, kR3a, kR3b, kR3c, e_mutp, k_pm3, k_pm2, kPm1, k_pm, s_setp, kSp4, k_sp3, k_sp2, k_sp1, k_sp, pe_k, e_pth, k_pth, k_pth2, ty_int, tk_int, tk_str, tk_bool, is_ii, is_ib, is_is, oEq_int]
  | str s => simp -implicitDefEqProofs [r_bind_ok, r_res_some, r_OBt, s_nil, s_one, k_nx, k_ret, k_brk, k_cnt, s_kill, s_frz, s_set, s_unp, k_unp, s_ifs, k_ifT, k_ifF, s_fr, s_ret, s_ex, s_setix, s_brk, s_cnt, s_pass, e_var, k_var, e_frz, k_frz, e_mv, k_mv, e_cst, k_cst, c_int, c_bl, c_non, c_str, e_op, a_nil, a_cons, e_lend, t_lend, k_lend, k_lendT, e_and, e_or, e_not, t_and, t_or, t_not, t_op, t_var, t_call, t_cio, t_cst, k_andTT, k_andTF, k_orTT, k_orTF, k_andOT, k_andOF, k_orOT, k_orOF, k_notO, e_lst, e_tup, e_call, e_cio, k_cio, k_out, e_cit, k_cit, e_comp, e_idx, k_idx, e_mut, k_mutS1, k_mutO, k_setS1, k_setO, e_slc, o_no, i_rng1, k_rng1, i_ex, k_itrL, r_fl, at0, at1, at2, oEq_int, oEq_str, kSet, kUnp, kRet, kEx, kCons, kCons2, kOp, kTest, kAnd, kOr, kNot, kNotT, kLst, kTup, kCall, kCio, kCit, kCit2, kComp2, kIdx, kMut, kSetix, kSetix2, kSlc, kSlc2, kSlc3, kFor, inits, opSem, oBin, oCmp, oIx, setL, okd, flat, truth, getSlots, upto, bindT, bindTs, wipeE, frzE, retC, freeze1, putSlots, nodupB, oB1, oB2, mutL, isOwnL, big, oMk, oCk, full, fullL, lendE_nil, lendE_cons, lendS_none, lendS_some, s_blk, k_blk, k_blkM, mergeE, s_whl, s_inc, k_incO, k_inc2, kInc2, o_so, k_so, oSlc, ot_so, ot_no, e_callv, t_callv, k_callvS, k_callvL, kCallvR, retN, kChnE, kChnA, kChnB, e_chn, t_chn, k_chnT, k_chnF, kChn3A, kChn3B, kChn3F, e_chn3, t_chn3, k_chn3T, k_chn3F, r_OBr, r_nxE, i_rng3, kR3a, kR3b, kR3c, e_mutp, k_pm3, k_pm2, kPm1, k_pm, s_setp, kSp4, k_sp3, k_sp2, k_sp1, k_sp, pe_k, e_pth, k_pth, k_pth2, ty_str, tk_str, is_ss, oEq_str]
  | lst ds =>
    obtain ⟨s2, s3, e⟩ := loop (.lst ds) ds h
    simp -implicitDefEqProofs [r_bind_ok, r_res_some, r_OBt, s_nil, s_one, k_nx, k_ret, k_brk, k_cnt, s_kill, s_frz, s_set, s_unp, k_unp, s_ifs, k_ifT, k_ifF, s_fr, s_ret, s_ex, s_setix, s_brk, s_cnt, s_pass, e_var, k_var, e_frz, k_frz, e_mv, k_mv, e_cst, k_cst, c_int, c_bl, c_non, c_str, e_op, a_nil, a_cons, e_lend, t_lend, k_lend, k_lendT, e_and, e_or, e_not, t_and, t_or, t_not, t_op, t_var, t_call, t_cio, t_cst, k_andTT, k_andTF, k_orTT, k_orTF, k_andOT, k_andOF, k_orOT, k_orOF, k_notO, e_lst, e_tup, e_call, e_cio, k_cio, k_out, e_cit, k_cit, e_comp, e_idx, k_idx, e_mut, k_mutS1, k_mutO, k_setS1, k_setO, e_slc, o_no, i_rng1, k_rng1, i_ex, k_itrL, r_fl, at0, at1, at2, oEq_int, oEq_str, kSet, kUnp, kRet, kEx, kCons, kCons2, kOp, kTest, kAnd, kOr, kNot, kNotT, kLst, kTup, kCall, kCio, kCit, kCit2, kComp2, kIdx, kMut, kSetix, kSetix2, kSlc, kSlc2, kSlc3, kFor, inits, opSem, oBin, oCmp, oIx, setL, okd, flat, truth, getSlots, upto, bindT, bindTs, wipeE, frzE, retC, freeze1, putSlots, nodupB, oB1, oB2, mutL, isOwnL, big, oMk, oCk, full, fullL, lendE_nil, lendE_cons, lendS_none, lendS_some, s_blk, k_blk, k_blkM, mergeE, s_whl, s_inc, k_incO, k_inc2, kInc2, o_so, k_so, oSlc, ot_so, ot_no, e_callv, t_callv, k_callvS, k_callvL, kCallvR, retN, kChnE, kChnA, kChnB, e_chn, t_chn, k_chnT, k_chnF, kChn3A, kChn3B, kChn3F, e_chn3, t_chn3, k_chn3T, k_chn3F, r_OBr, r_nxE, i_rng3, kR3a, kR3b, kR3c, e_mutp, k_pm3, k_pm2, kPm1, k_pm, s_setp, kSp4, k_sp3, k_sp2, k_sp1, k_sp, pe_k, e_pth, k_pth, k_pth2, ty_lst, tk_str, tk_int, tk_list, tk_tuple, is_ls, is_li, is_ll, is_lt, bb, oEq_int, i_zip, kZ1, k_z2l, e]
  | tup ds =>
    obtain ⟨s2, s3, e⟩ := loop (.tup ds) ds h
    simp -implicitDefEqProofs [r_bind_ok, r_res_some, r_OBt, s_nil, s_one, k_nx, k_ret, k_brk, k_cnt, s_kill, s_frz, s_set, s_unp, k_unp, s_ifs, k_ifT, k_ifF, s_fr, s_ret, s_ex, s_setix, s_brk, s_cnt, s_pass, e_var, k_var, e_frz, k_frz, e_mv, k_mv, e_cst, k_cst, c_int, c_bl, c_non, c_str, e_op, a_nil, a_cons, e_lend, t_lend, k_lend, k_lendT, e_and, e_or, e_not, t_and, t_or, t_not, t_op, t_var, t_call, t_cio, t_cst, k_andTT, k_andTF, k_orTT, k_orTF, k_andOT, k_andOF, k_orOT, k_orOF, k_notO, e_lst, e_tup, e_call, e_cio, k_cio, k_out, e_cit, k_cit, e_comp, e_idx, k_idx, e_mut, k_mutS1, k_mutO, k_setS1, k_setO, e_slc, o_no, i_rng1, k_rng1, i_ex, k_itrL, r_fl, at0, at1, at2, oEq_int, oEq_str, kSet, kUnp, kRet, kEx, kCons, kCons2, kOp, kTest, kAnd, kOr, kNot, kNotT, kLst, kTup, kCall, kCio, kCit, kCit2, kComp2, kIdx, kMut, kSetix, kSetix2, kSlc, kSlc2, kSlc3, kFor, inits, opSem, oBin, oCmp, oIx, setL, okd, flat, truth, getSlots, upto, bindT, bindTs, wipeE, frzE, retC, freeze1, putSlots, nodupB, oB1, oB2, mutL, isOwnL, big, oMk, oCk, full, fullL, lendE_nil, lendE_cons, lendS_none, lendS_some, s_blk, k_blk, k_blkM, mergeE, s_whl, s_inc, k_incO, k_inc2, kInc2, o_so, k_so, oSlc, ot_so, ot_no, e_callv, t_callv, k_callvS, k_callvL, kCallvR, retN, kChnE, kChnA, kChnB, e_chn, t_chn, k_chnT, k_chnF, kChn3A, kChn3B, kChn3F, e_chn3, t_chn3, k_chn3T, k_chn3F, r_OBr, r_nxE, i_rng3, kR3a, kR3b, kR3c, e_mutp, k_pm3, k_pm2, kPm1, k_pm, s_setp, kSp4, k_sp3, k_sp2, k_sp1, k_sp, pe_k, e_pth, k_pth, k_pth2, ty_tup, tk_str, tk_int, tk_list, tk_tuple, is_ts, is_ti, is_tl, is_tt, bb, oEq_int, i_zip, kZ1, k_z2t, e]
  | _ => exact h.elim
theorem same_5 : ∀ d : D, sm 5 d → f24.F [(d, 0), (d, 0)] = .ok (.bl true) 0 [] := by
  intro d h
  have lk : look [f0, f1, f2, f3, f4, f5, f6, f7, f8, f9, f10, f11, f12, f13, f14, f15, f16, f17, f18, f19, f20, f21, f22, f23] 23 = f23 := rfl
  have io : f23.io = 0 := rfl
  have loop : ∀ (E0 : D) (ds : List D), (∀ x ∈ ds, sm 4 x) → ∃ s2 s3 : Pv.Slot, floop (.tp (.cons (.nm 2) (.cons (.nm 3) .nil))) (evS (look [f0, f1, f2, f3, f4, f5, f6, f7, f8, f9, f10, f11, f12, f13, f14, f15, f16, f17, f18, f19, f20, f21, f22, f23]) b24_0) ((ds.zip ds).map fun q => D.tup [q.1, q.2]) [some (E0, 0), some (E0, 0), none, none] = .ok .nx [some (E0, 0), some (E0, 0), s2, s3] := by
    intro E0 ds hd
    obtain ⟨env', h1, s2, s3, rfl⟩ := floop_st (t := .tp (.cons (.nm 2) (.cons (.nm 3) .nil))) (b := evS (look [f0, f1, f2, f3, f4, f5, f6, f7, f8, f9, f10, f11, f12, f13, f14, f15, f16, f17, f18, f19, f20, f21, f22, f23]) b24_0) (fun env => ∃ s2 s3 : Pv.Slot, env = [some (E0, 0), some (E0, 0), s2, s3]) (ds := (ds.zip ds).map fun q => D.tup [q.1, q.2]) (env := [some (E0, 0), some (E0, 0), none, none]) ⟨none, none, rfl⟩ (fun d hdm env ⟨s2, s3, e⟩ => by
      subst e
      obtain ⟨⟨a, b⟩, hq, rfl⟩ := List.mem_map.mp hdm
      obtain ⟨e1, hm⟩ := zip_self hq
      have e1 : a = b := e1
      subst e1
      have ih := same_4 a (hd a hm)
      refine ⟨[some (E0, 0), some (E0, 0), some (a, 0), some (a, 0)], [some (E0, 0), some (E0, 0), some (a, 0), some (a, 0)], rfl, .inl ?_, _, _, rfl⟩
      simp [b24_0, r_bind_ok, r_res_some, r_OBt, s_nil, s_one, k_nx, k_ret, k_brk, k_cnt, s_kill, s_frz, s_set, s_unp, k_unp, s_ifs, k_ifT, k_ifF, s_fr, s_ret, s_ex, s_setix, s_brk, s_cnt, s_pass, e_var, k_var, e_frz, k_frz, e_mv, k_mv, e_cst, k_cst, c_int, c_bl, c_non, c_str, e_op, a_nil, a_cons, e_lend, t_lend, k_lend, k_lendT, e_and, e_or, e_not, t_and, t_or, t_not, t_op, t_var, t_call, t_cio, t_cst, k_andTT, k_andTF, k_orTT, k_orTF, k_andOT, k_andOF, k_orOT, k_orOF, k_notO, e_lst, e_tup, e_call, e_cio, k_cio, k_out, e_cit, k_cit, e_comp, e_idx, k_idx, e_mut, k_mutS1, k_mutO, k_setS1, k_setO, e_slc, o_no, i_rng1, k_rng1, i_ex, k_itrL, r_fl, at0, at1, at2, oEq_int, oEq_str, kSet, kUnp, kRet, kEx, kCons, kCons2, kOp, kTest, kAnd, kOr, kNot, kNotT, kLst, kTup, kCall, kCio, kCit, kCit2, kComp2, kIdx, kMut, kSetix, kSetix2, kSlc, kSlc2, kSlc3, kFor, inits, opSem, oBin, oCmp, oIx, setL, okd, flat, truth, getSlots, upto, bindT, bindTs, wipeE, frzE, retC, freeze1, putSlots, nodupB, oB1, oB2, mutL, isOwnL, big, oMk, oCk, full, fullL, lendE_nil, lendE_cons, lendS_none, lendS_some, s_blk, k_blk, k_blkM, mergeE, s_whl, s_inc, k_incO, k_inc2, kInc2, o_so, k_so, oSlc, ot_so, ot_no, e_callv, t_callv, k_callvS, k_callvL, kCallvR, retN, kChnE, kChnA, kChnB, e_chn, t_chn, k_chnT, k_chnF, kChn3A, kChn3B, kChn3F, e_chn3, t_chn3, k_chn3T, k_chn3F, r_OBr, r_nxE, i_rng3, kR3a, kR3b, kR3c, e_mutp, k_pm3, k_pm2, kPm1, k_pm, s_setp, kSp4, k_sp3, k_sp2, k_sp1, k_sp, pe_k, e_pth, k_pth, k_pth2, lk, io, ih])
    exact ⟨s2, s3, h1⟩
  unfold f24
  rw [r_runF rfl]
  simp only [d24]
  cases d with
  | int i => simp -implicitDefEqProofs [r_bind_ok, r_res_some, r_OBt, s_nil, s_one, k_nx, k_ret, k_brk, k_cnt, s_kill, s_frz, s_set, s_unp, k_unp, s_ifs, k_ifT, k_ifF, s_fr, s_ret, s_ex, s_setix, s_brk, s_cnt, s_pass, e_var, k_var, e_frz, k_frz, e_mv, k_mv, e_cst, k_cst, c_int, c_bl, c_non, c_str, e_op, a_nil, a_cons, e_lend, t_lend, k_lend, k_lendT, e_and, e_or, e_not, t_and, t_or, t_not, t_op, t_var, t_call, t_cio, t_cst, k_andTT, k_andTF, k_orTT, k_orTF, k_andOT, k_andOF, k_orOT, k_orOF, k_notO, e_lst, e_tup, e_call, e_cio, k_cio, k_out, e_cit, k_cit, e_comp, e_idx, k_idx, e_mut, k_mutS1, k_mutO, k_setS1, k_setO, e_slc, o_no, i_rng1, k_rng1, i_ex, k_itrL, r_fl, at0, at1, at2, oEq_int, oEq_str, kSet, kUnp, kRet, kEx, kCons, kCons2, kOp, kTest, kAnd, kOr, kNot, kNotT, kLst, kTup, kCall, kCio, kCit, kCit2, kComp2, kIdx, kMut, kSetix, kSetix2, kSlc, kSlc2, kSlc3, kFor, inits, opSem, oBin, oCmp, oIx, setL, okd, flat, truth, getSlots, upto, bindT, bindTs, wipeE, frzE, retC, freeze1, putSlots, nodupB, oB1, oB2, mutL, isOwnL, big, oMk, oCk, full, fullL, lendE_nil, lendE_cons, lendS_none, lendS_some, s_blk, k_blk, k_blkM, mergeE, s_whl, s_inc, k_incO, k_inc2, kInc2, o_so, k_so, oSlc, ot_so, ot_no, e_callv, t_callv, k_callvS, k_callvL, kCallvR, retN, kChnE, kChnA, kChnB, e_chn, t_chn, k_chnT, k_chnF, kChn3A, kChn3B, kChn3F, e_chn3, t_chn3, k_chn3T, k_chn3F, r_OBr, r_nxE, i_rng3, kR3a, kR3b, kR3c, e_mutp, k_pm3, k_pm2, kPm1, k_pm, s_setp, kSp4, k_sp3, k_sp2, k_sp1, k_sp, pe_k, e_pth, k_pth, k_pth2, ty_int, tk_int, tk_str, tk_bool, is_ii, is_ib, is_is, oEq_int]
  | str s => simp -implicitDefEqProofs [r_bind_ok, r_res_some, r_OBt, s_nil, s_one, k_nx, k_ret, k_brk, k_cnt, s_kill, s_frz, s_set, s_unp, k_unp, s_ifs, k_ifT, k_ifF, s_fr, s_ret, s_ex, s_setix, s_brk, s_cnt, s_pass, e_var, k_var, e_frz, k_frz, e_mv, k_mv, e_cst, k_cst, c_int, c_bl, c_non, c_str, e_op, a_nil, a_cons, e_lend, t_lend, k_lend, k_lendT, e_and, e_or, e_not, t_and, t_or, t_not, t_op, t_var, t_call, t_cio, t_cst, k_andTT, k_andTF, k_orTT, k_orTF, k_andOT, k_andOF, k_orOT, k_orOF, k_notO, e_lst, e_tup, e_call, e_cio, k_cio, k_out, e_cit, k_cit, e_comp, e_idx, k_idx, e_mut, k_mutS1, k_mutO, k_setS1, k_setO, e_slc, o_no, i_rng1, k_rng1, i_ex, k_itrL, r_fl, at0, at1, at2, oEq_int, oEq_str, kSet, kUnp, kRet, kEx, kCons, kCons2, kOp, kTest, kAnd, kOr, kNot, kNotT, kLst, kTup, kCall, kCio, kCit, kCit2, kComp2, kIdx, kMut, kSetix, kSetix2, kSlc, kSlc2, kSlc3, kFor, inits, opSem, oBin, oCmp, oIx, setL, okd, flat, truth, getSlots, upto, bindT, bindTs, wipeE, frzE, retC, freeze1, putSlots, nodupB, oB1, oB2, mutL, isOwnL, big, oMk, oCk, full, fullL, lendE_nil, lendE_cons, lendS_none, lendS_some, s_blk, k_blk, k_blkM, mergeE, s_whl, s_inc, k_incO, k_inc2, kInc2, o_so, k_so, oSlc, ot_so, ot_no, e_callv, t_callv, k_callvS, k_callvL, kCallvR, retN, kChnE, kChnA, kChnB, e_chn, t_chn, k_chnT, k_chnF, kChn3A, kChn3B, kChn3F, e_chn3, t_chn3, k_chn3T, k_chn3F, r_OBr, r_nxE, i_rng3, kR3a, kR3b, kR3c, e_mutp, k_pm3, k_pm2, kPm1, k_pm, s_setp, kSp4, k_sp3, k_sp2, k_sp1, k_sp, pe_k, e_pth, k_pth, k_pth2, ty_str, tk_str, is_ss, oEq_str]
  | lst ds =>
    obtain ⟨s2, s3, e⟩ := loop (.lst ds) ds h
    simp -implicitDefEqProofs [r_bind_ok, r_res_some, r_OBt, s_nil, s_one, k_nx, k_ret, k_brk, k_cnt, s_kill, s_frz, s_set, s_unp, k_unp, s_ifs, k_ifT, k_ifF, s_fr, s_ret, s_ex, s_setix, s_brk, s_cnt, s_pass, e_var, k_var, e_frz, k_frz, e_mv, k_mv, e_cst, k_cst, c_int, c_bl, c_non, c_str, e_op, a_nil, a_cons, e_lend, t_lend, k_lend, k_lendT, e_and, e_or, e_not, t_and, t_or, t_not, t_op, t_var, t_call, t_cio, t_cst, k_andTT, k_andTF, k_orTT, k_orTF, k_andOT, k_andOF, k_orOT, k_orOF, k_notO, e_lst, e_tup, e_call, e_cio, k_cio, k_out, e_cit, k_cit, e_comp, e_idx, k_idx, e_mut, k_mutS1, k_mutO, k_setS1, k_setO, e_slc, o_no, i_rng1, k_rng1, i_ex, k_itrL, r_fl, at0, at1, at2, oEq_int, oEq_str, kSet, kUnp, kRet, kEx, kCons, kCons2, kOp, kTest, kAnd, kOr, kNot, kNotT, kLst, kTup, kCall, kCio, kCit, kCit2, kComp2, kIdx, kMut, kSetix, kSetix2, kSlc, kSlc2, kSlc3, kFor, inits, opSem, oBin, oCmp, oIx, setL, okd, flat, truth, getSlots, upto, bindT, bindTs, wipeE, frzE, retC, freeze1, putSlots, nodupB, oB1, oB2, mutL, isOwnL, big, oMk, oCk, full, fullL, lendE_nil, lendE_cons, lendS_none, lendS_some, s_blk, k_blk, k_blkM, mergeE, s_whl, s_inc, k_incO, k_inc2, kInc2, o_so, k_so, oSlc, ot_so, ot_no, e_callv, t_callv, k_callvS, k_callvL, kCallvR, retN, kChnE, kChnA, kChnB, e_chn, t_chn, k_chnT, k_chnF, kChn3A, kChn3B, kChn3F, e_chn3, t_chn3, k_chn3T, k_chn3F, r_OBr, r_nxE, i_rng3, kR3a, kR3b, kR3c, e_mutp, k_pm3, k_pm2, kPm1, k_pm, s_setp, kSp4, k_sp3, k_sp2, k_sp1, k_sp, pe_k, e_pth, k_pth, k_pth2, ty_lst, tk_str, tk_int, tk_list, tk_tuple, is_ls, is_li, is_ll, is_lt, bb, oEq_int, i_zip, kZ1, k_z2l, e]
  | tup ds =>
    obtain ⟨s2, s3, e⟩ := loop (.tup ds) ds h
    simp -implicitDefEqProofs [r_bind_ok, r_res_some, r_OBt, s_nil, s_one, k_nx, k_ret, k_brk, k_cnt, s_kill, s_frz, s_set, s_unp, k_unp, s_ifs, k_ifT, k_ifF, s_fr, s_ret, s_ex, s_setix, s_brk, s_cnt, s_pass, e_var, k_var, e_frz, k_frz, e_mv, k_mv, e_cst, k_cst, c_int, c_bl, c_non, c_str, e_op, a_nil, a_cons, e_lend, t_lend, k_lend, k_lendT, e_and, e_or, e_not, t_and, t_or, t_not, t_op, t_var, t_call, t_cio, t_cst, k_andTT, k_andTF, k_orTT, k_orTF, k_andOT, k_andOF, k_orOT, k_orOF, k_notO, e_lst, e_tup, e_call, e_cio, k_cio, k_out, e_cit, k_cit, e_comp, e_idx, k_idx, e_mut, k_mutS1, k_mutO, k_setS1, k_setO, e_slc, o_no, i_rng1, k_rng1, i_ex, k_itrL, r_fl, at0, at1, at2, oEq_int, oEq_str, kSet, kUnp, kRet, kEx, kCons, kCons2, kOp, kTest, kAnd, kOr, kNot, kNotT, kLst, kTup, kCall, kCio, kCit, kCit2, kComp2, kIdx, kMut, kSetix, kSetix2, kSlc, kSlc2, kSlc3, kFor, inits, opSem, oBin, oCmp, oIx, setL, okd, flat, truth, getSlots, upto, bindT, bindTs, wipeE, frzE, retC, freeze1, putSlots, nodupB, oB1, oB2, mutL, isOwnL, big, oMk, oCk, full, fullL, lendE_nil, lendE_cons, lendS_none, lendS_some, s_blk, k_blk, k_blkM, mergeE, s_whl, s_inc, k_incO, k_inc2, kInc2, o_so, k_so, oSlc, ot_so, ot_no, e_callv, t_callv, k_callvS, k_callvL, kCallvR, retN, kChnE, kChnA, kChnB, e_chn, t_chn, k_chnT, k_chnF, kChn3A, kChn3B, kChn3F, e_chn3, t_chn3, k_chn3T, k_chn3F, r_OBr, r_nxE, i_rng3, kR3a, kR3b, kR3c, e_mutp, k_pm3, k_pm2, kPm1, k_pm, s_setp, kSp4, k_sp3, k_sp2, k_sp1, k_sp, pe_k, e_pth, k_pth, k_pth2, ty_tup, tk_str, tk_int, tk_list, tk_tuple, is_ts, is_ti, is_tl, is_tt, bb, oEq_int, i_zip, kZ1, k_z2t, e]
  | _ => exact h.elim
theorem code_sm (k n : Int) (states : List (List Br)) : sm 5 (cdD k n states) := by
  intro x hx
  rcases List.mem_cons.mp hx with rfl | hx
  · trivial
  rcases List.mem_cons.mp hx with rfl | hx
  · trivial
  rw [List.mem_singleton.mp hx]
  intro y hy
  obtain ⟨st, _, rfl⟩ := List.mem_map.mp hy
  intro z hz
  obtain ⟨p, _, rfl⟩ := List.mem_map.mp hz
  intro w hw
  rcases List.mem_cons.mp hw with rfl | hw
  · trivial
  · rw [List.mem_singleton.mp hw]; trivial
theorem same_code (k n : Int) (states : List (List Br)) : f24.F [(cdD k n states, 0), (cdD k n states, 0)] = .ok (.bl true) 0 [] := same_5 _ (code_sm k n states)
theorem io_same : f24.io = 0 := rfl
/-! need_letters -/
abbrev eN : E := .not (.call 7 (.cons (.var 2) (.cons (.cst (.int 0)) (.cons (.op (.bin .sub) (.cons (.op (.bin .shl) (.cons (.cst (.int 2)) (.cons (.op (.bin .sub) (.cons (.var 0) (.cons (.cst (.int 1)) .nil))) .nil))) (.cons (.cst (.int 1)) .nil))) .nil))))
theorem need_ok {k : Int} (h1 : 1 ≤ k) (h3 : k ≤ 3) {text : List Int} (ht : LetOk k text) : f16.F [(.int k, 0), (ils text, 0)] = .ok .non 0 [] := by
  have lk : look [f0, f1, f2, f3, f4, f5, f6, f7, f8, f9, f10, f11, f12, f13, f14, f15] 7 = f7 := rfl
  have sh := shl_ok h1 h3
  have kn := kcomp_none (ρ := look [f0, f1, f2, f3, f4, f5, f6, f7, f8, f9, f10, f11, f12, f13, f14, f15]) (n := 0) (own := [2]) (t := .nm 2) (c := .so eN) (e := .var 2) (env := [some (.int k, 0), some (ils text, 0), none]) D.int text rfl fun l hl => by
    have h := whole_ok l 0 (2 ^ k.toNat - 1)
    have hl2 := ht l hl
    rw [decide_eq_true (show 0 ≤ l ∧ l ≤ 2 ^ k.toNat - 1 by omega)] at h
    refine ⟨[some (.int k, 0), some (ils text, 0), some (.int l, 0)], rfl, [some (.int k, 0), some (ils text, 0), some (.int l, 0)], ?_, rfl⟩
    generalize (2 : Int) ^ k.toNat = P at *
    have sb1 : oBin .sub (.int k) (.int 1) = some (.int (k - 1), 0) := rfl
    have sb2 : oBin .sub (.int P) (.int 1) = some (.int (P - 1), 0) := rfl
    simp [r_bind_ok, r_res_some, r_OBt, s_nil, s_one, k_nx, k_ret, k_brk, k_cnt, s_kill, s_frz, s_set, s_unp, k_unp, s_ifs, k_ifT, k_ifF, s_fr, s_ret, s_ex, s_setix, s_brk, s_cnt, s_pass, e_var, k_var, e_frz, k_frz, e_mv, k_mv, e_cst, k_cst, c_int, c_bl, c_non, c_str, e_op, a_nil, a_cons, e_lend, t_lend, k_lend, k_lendT, e_and, e_or, e_not, t_and, t_or, t_not, t_op, t_var, t_call, t_cio, t_cst, k_andTT, k_andTF, k_orTT, k_orTF, k_andOT, k_andOF, k_orOT, k_orOF, k_notO, e_lst, e_tup, e_call, e_cio, k_cio, k_out, e_cit, k_cit, e_comp, e_idx, k_idx, e_mut, k_mutS1, k_mutO, k_setS1, k_setO, e_slc, o_no, i_rng1, k_rng1, i_ex, k_itrL, r_fl, at0, at1, at2, oEq_int, oEq_str, kSet, kUnp, kRet, kEx, kCons, kCons2, kOp, kTest, kAnd, kOr, kNot, kNotT, kLst, kTup, kCall, kCio, kCit, kCit2, kComp2, kIdx, kMut, kSetix, kSetix2, kSlc, kSlc2, kSlc3, kFor, inits, opSem, oCmp, oIx, setL, okd, flat, truth, getSlots, upto, bindT, bindTs, wipeE, frzE, retC, freeze1, putSlots, nodupB, oB1, oB2, mutL, isOwnL, big, oMk, oCk, full, fullL, lendE_nil, lendE_cons, lendS_none, lendS_some, s_blk, k_blk, k_blkM, mergeE, s_whl, s_inc, k_incO, k_inc2, kInc2, o_so, k_so, oSlc, ot_so, ot_no, e_callv, t_callv, k_callvS, k_callvL, kCallvR, retN, kChnE, kChnA, kChnB, e_chn, t_chn, k_chnT, k_chnF, kChn3A, kChn3B, kChn3F, e_chn3, t_chn3, k_chn3T, k_chn3F, r_OBr, r_nxE, i_rng3, kR3a, kR3b, kR3c, e_mutp, k_pm3, k_pm2, kPm1, k_pm, s_setp, kSp4, k_sp3, k_sp2, k_sp1, k_sp, pe_k, e_pth, k_pth, k_pth2, lk, io_whole, sh, h, sb1, sb2]
  unfold f16
  rw [r_runF rfl]
  simp only [ils, eN] at kn
  simp [d16, r_bind_ok, r_res_some, r_OBt, s_nil, s_one, k_nx, k_ret, k_brk, k_cnt, s_kill, s_frz, s_set, s_unp, k_unp, s_ifs, k_ifT, k_ifF, s_fr, s_ret, s_ex, s_setix, s_brk, s_cnt, s_pass, e_var, k_var, e_frz, k_frz, e_mv, k_mv, e_cst, k_cst, c_int, c_bl, c_non, c_str, e_op, a_nil, a_cons, e_lend, t_lend, k_lend, k_lendT, e_and, e_or, e_not, t_and, t_or, t_not, t_op, t_var, t_call, t_cio, t_cst, k_andTT, k_andTF, k_orTT, k_orTF, k_andOT, k_andOF, k_orOT, k_orOF, k_notO, e_lst, e_tup, e_call, e_cio, k_cio, k_out, e_cit, k_cit, e_comp, e_idx, k_idx, e_mut, k_mutS1, k_mutO, k_setS1, k_setO, e_slc, o_no, i_rng1, k_rng1, i_ex, k_itrL, r_fl, at0, at1, at2, oEq_int, oEq_str, kSet, kUnp, kRet, kEx, kCons, kCons2, kOp, kTest, kAnd, kOr, kNot, kNotT, kLst, kTup, kCall, kCio, kCit, kCit2, kComp2, kIdx, kMut, kSetix, kSetix2, kSlc, kSlc2, kSlc3, kFor, inits, opSem, oCmp, oIx, setL, okd, flat, truth, getSlots, upto, bindT, bindTs, wipeE, frzE, retC, freeze1, putSlots, nodupB, oB1, oB2, mutL, isOwnL, big, oMk, oCk, full, fullL, lendE_nil, lendE_cons, lendS_none, lendS_some, s_blk, k_blk, k_blkM, mergeE, s_whl, s_inc, k_incO, k_inc2, kInc2, o_so, k_so, oSlc, ot_so, ot_no, e_callv, t_callv, k_callvS, k_callvL, kCallvR, retN, kChnE, kChnA, kChnB, e_chn, t_chn, k_chnT, k_chnF, kChn3A, kChn3B, kChn3F, e_chn3, t_chn3, k_chn3T, k_chn3F, r_OBr, r_nxE, i_rng3, kR3a, kR3b, kR3c, e_mutp, k_pm3, k_pm2, kPm1, k_pm, s_setp, kSp4, k_sp3, k_sp2, k_sp1, k_sp, pe_k, e_pth, k_pth, k_pth2, ty_lst, tk_list, is_ll, kn, oEq_nil]
theorem io_need : f16.io = 0 := rfl
theorem sent_loop {k n : Int} {states : List (List Br)} (c : Code k n states) (ρ : Nat → Fn) (tx : List Int) (kk nn : Pv.Slot) (cd : Pv.Slot) : ∀ {text : List Int} {s : Int} {ws : List (List Nat)} {s4 s8 : Pv.Slot}, LetOk k text → 0 ≤ s → s < states.length → ws.length + text.length ≤ 1000000 →
    ∃ s4' s8', floop (.nm 4) (evS ρ b17_0) (text.map .int) [cd, some (.int s, 0), some (ils tx, 0), some (.lst (ws.map .str), 1), s4, kk, nn, some (.lst (states.map stD), 0), s8] = .ok .nx [cd, some (.int (endL states s text), 0), some (ils tx, 0), some (.lst ((ws ++ (sentL states s text).1).map .str), 1), s4', kk, nn, some (.lst (states.map stD), 0), s8']
  | [], s, ws, s4, s8, _, _, _, _ => ⟨s4, s8, by rw [show ws ++ (sentL states s []).1 = ws from List.append_nil ws]; rfl⟩
  | l :: r, s, ws, s4, s8, ht, h0, h1, hw => by
    obtain ⟨q1, q2⟩ := ht l List.mem_cons_self
    obtain ⟨b1, b2⟩ := c.br_at h0 h1 q1 q2
    obtain ⟨a1, a2⟩ := c.st_at h0 h1
    rw [List.length_cons] at hw
    obtain ⟨s4', s8', ih⟩ := sent_loop c ρ tx kk nn cd (text := r) (s := (brAt states s l).2) (ws := ws ++ [(brAt states s l).1]) (s4 := some (.int l, 0)) (s8 := some (.str (brAt states s l).1, 0)) (fun x hx => ht x (List.mem_cons_of_mem _ hx)) b2.lo b2.hi (by simp; omega)
    refine ⟨s4', s8', ?_⟩
    rw [List.map_cons]
    show (match evS ρ b17_0 [cd, some (.int s, 0), some (ils tx, 0), some (.lst (ws.map .str), 1), some (.int l, 0), kk, nn, some (.lst (states.map stD), 0), s8] with
      | .ok .nx env2 => floop (.nm 4) (evS ρ b17_0) (r.map .int) env2
      | .ok .cnt env2 => floop (.nm 4) (evS ρ b17_0) (r.map .int) env2
      | .ok .brk env2 => .ok .nx env2
      | r => r) = _
    have hwl : ws.length < 16777216 := by omega
    have e : evS ρ b17_0 [cd, some (.int s, 0), some (ils tx, 0), some (.lst (ws.map .str), 1), some (.int l, 0), kk, nn, some (.lst (states.map stD), 0), s8] = .ok .nx [cd, some (.int (brAt states s l).2, 0), some (ils tx, 0), some (.lst ((ws ++ [(brAt states s l).1]).map .str), 1), some (.int l, 0), kk, nn, some (.lst (states.map stD), 0), some (.str (brAt states s l).1, 0)] := by
      generalize brAt states s l = b at *
      generalize stAt states s = st at *
      simp only [stD, brD] at a2 b1
      have a2' : L2.atI (states.map stD) s = some (.lst (st.map brD)) := a2
      have b1' : L2.atI (st.map brD) l = some (.tup [.str b.1, .int b.2]) := b1
      generalize states.map stD = SS at *
      simp [b17_0, r_bind_ok, r_res_some, r_OBt, s_nil, s_one, k_nx, k_ret, k_brk, k_cnt, s_kill, s_frz, s_set, s_unp, k_unp, s_ifs, k_ifT, k_ifF, s_fr, s_ret, s_ex, s_setix, s_brk, s_cnt, s_pass, e_var, k_var, e_frz, k_frz, e_mv, k_mv, e_cst, k_cst, c_int, c_bl, c_non, c_str, e_op, a_nil, a_cons, e_lend, t_lend, k_lend, k_lendT, e_and, e_or, e_not, t_and, t_or, t_not, t_op, t_var, t_call, t_cio, t_cst, k_andTT, k_andTF, k_orTT, k_orTF, k_andOT, k_andOF, k_orOT, k_orOF, k_notO, e_lst, e_tup, e_call, e_cio, k_cio, k_out, e_cit, k_cit, e_comp, e_idx, k_idx, e_mut, k_mutS1, k_mutO, k_setS1, k_setO, e_slc, o_no, i_rng1, k_rng1, i_ex, k_itrL, r_fl, at0, at1, at2, oEq_int, oEq_str, kSet, kUnp, kRet, kEx, kCons, kCons2, kOp, kTest, kAnd, kOr, kNot, kNotT, kLst, kTup, kCall, kCio, kCit, kCit2, kComp2, kIdx, kMut, kSetix, kSetix2, kSlc, kSlc2, kSlc3, kFor, inits, opSem, oBin, oCmp, oIx, setL, okd, flat, truth, getSlots, upto, bindT, bindTs, wipeE, frzE, retC, freeze1, putSlots, nodupB, oB1, oB2, mutL, isOwnL, big, oMk, oCk, full, fullL, lendE_nil, lendE_cons, lendS_none, lendS_some, s_blk, k_blk, k_blkM, mergeE, s_whl, s_inc, k_incO, k_inc2, kInc2, o_so, k_so, oSlc, ot_so, ot_no, e_callv, t_callv, k_callvS, k_callvL, kCallvR, retN, kChnE, kChnA, kChnB, e_chn, t_chn, k_chnT, k_chnF, kChn3A, kChn3B, kChn3F, e_chn3, t_chn3, k_chn3T, k_chn3F, r_OBr, r_nxE, i_rng3, kR3a, kR3b, kR3c, e_mutp, k_pm3, k_pm2, kPm1, k_pm, s_setp, kSp4, k_sp3, k_sp2, k_sp1, k_sp, pe_k, e_pth, k_pth, k_pth2, bindT, bindTs, a2', b1', hwl]
    rw [e]
    show floop (.nm 4) (evS ρ b17_0) (r.map .int) _ = _
    rw [ih]
    rw [List.append_assoc]
    rfl
theorem sent_ok {k n : Int} {states : List (List Br)} (c : Code k n states) {s : Int} (h0 : 0 ≤ s) (h1 : s < states.length) {text : List Int} (ht : LetOk k text) (hl : text.length ≤ 100000) :
    f17.F [(cdD k n states, 0), (.int s, 0), (ils text, 0)] = .ok (.tup [.str (wireL states s text), .int (endL states s text)]) 1 [] := by
  have lk : look [f0, f1, f2, f3, f4, f5, f6, f7, f8, f9, f10, f11, f12, f13, f14, f15, f16] 16 = f16 := rfl
  have nd := need_ok c.k1 c.k3 ht
  obtain ⟨s4', s8', h⟩ := sent_loop c (look [f0, f1, f2, f3, f4, f5, f6, f7, f8, f9, f10, f11, f12, f13, f14, f15, f16]) text (some (.int k, 0)) (some (.int n, 0)) (some (cdD k n states, 0)) (text := text) (s := s) (ws := []) (s4 := none) (s8 := none) ht h0 h1 (by simp; omega)
  rw [List.nil_append] at h
  obtain ⟨w1, w2, _⟩ := sent_words c ht h0 h1
  have hj := oCk_join0 (ws := (sentL states s text).1) (by
    have := wire_len c ht h0 h1
    unfold wireL at this
    rw [this]
    have n6 := c.n6
    have : text.length * n.toNat ≤ 100000 * 6 := Nat.mul_le_mul hl (by omega)
    omega)
  have hw : wireL states s text = (sentL states s text).1.flatten := rfl
  rw [hw]
  generalize (sentL states s text).1 = W at *
  generalize endL states s text = en at *
  unfold f17
  rw [r_runF rfl]
  simp only [ils, cdD, List.map_nil] at *
  simp [d17, r_bind_ok, r_res_some, r_OBt, s_nil, s_one, k_nx, k_ret, k_brk, k_cnt, s_kill, s_frz, s_set, s_unp, k_unp, s_ifs, k_ifT, k_ifF, s_fr, s_ret, s_ex, s_setix, s_brk, s_cnt, s_pass, e_var, k_var, e_frz, k_frz, e_mv, k_mv, e_cst, k_cst, c_int, c_bl, c_non, c_str, e_op, a_nil, a_cons, e_lend, t_lend, k_lend, k_lendT, e_and, e_or, e_not, t_and, t_or, t_not, t_op, t_var, t_call, t_cio, t_cst, k_andTT, k_andTF, k_orTT, k_orTF, k_andOT, k_andOF, k_orOT, k_orOF, k_notO, e_lst, e_tup, e_call, e_cio, k_cio, k_out, e_cit, k_cit, e_comp, e_idx, k_idx, e_mut, k_mutS1, k_mutO, k_setS1, k_setO, e_slc, o_no, i_rng1, k_rng1, i_ex, k_itrL, r_fl, at0, at1, at2, oEq_int, oEq_str, kSet, kUnp, kRet, kEx, kCons, kCons2, kOp, kTest, kAnd, kOr, kNot, kNotT, kLst, kTup, kCall, kCio, kCit, kCit2, kComp2, kIdx, kMut, kSetix, kSetix2, kSlc, kSlc2, kSlc3, kFor, inits, opSem, oBin, oCmp, oIx, setL, okd, flat, truth, getSlots, upto, bindT, bindTs, wipeE, frzE, retC, freeze1, putSlots, nodupB, oB1, oB2, mutL, isOwnL, big, full, fullL, lendE_nil, lendE_cons, lendS_none, lendS_some, s_blk, k_blk, k_blkM, mergeE, s_whl, s_inc, k_incO, k_inc2, kInc2, o_so, k_so, oSlc, ot_so, ot_no, e_callv, t_callv, k_callvS, k_callvL, kCallvR, retN, kChnE, kChnA, kChnB, e_chn, t_chn, k_chnT, k_chnF, kChn3A, kChn3B, kChn3F, e_chn3, t_chn3, k_chn3T, k_chn3F, r_OBr, r_nxE, i_rng3, kR3a, kR3b, kR3c, e_mutp, k_pm3, k_pm2, kPm1, k_pm, s_setp, kSp4, k_sp3, k_sp2, k_sp1, k_sp, pe_k, e_pth, k_pth, k_pth2, oMk, bindT, bindTs, lk, io_need, nd, h, hj]
/-! ### codes alike, texts alike -/
theorem eqvAll_map {α : Type} [DecidableEq α] (f : α → D) (h : ∀ a b, PyData.eqv (py (f a)) (py (f b)) = decide (a = b)) : ∀ l m : List α, PyData.eqvAll (pyL (l.map f)) (pyL (m.map f)) = decide (l = m)
  | [], [] => by simp [pyL, PyData.eqvAll]
  | [], _ :: _ => by simp [pyL, PyData.eqvAll]
  | _ :: _, [] => by simp [pyL, PyData.eqvAll]
  | a :: l, b :: m => by
    have ih := eqvAll_map f h l m
    show (PyData.eqv (py (f a)) (py (f b)) && PyData.eqvAll (pyL (l.map f)) (pyL (m.map f))) = _
    rw [h, ih]
    by_cases h1 : a = b
    · subst h1; simp
    · simp [h1]
theorem eqv_br (p q : Br) : PyData.eqv (py (brD p)) (py (brD q)) = decide (p = q) := by
  obtain ⟨a, b⟩ := p
  obtain ⟨c, d⟩ := q
  show (PyData.eqv (.str (sv a)) (.str (sv c)) && (PyData.eqv (.int b) (.int d) && true)) = _
  by_cases h1 : a = c
  · subst h1
    by_cases h2 : b = d
    · subst h2; simp [PyData.eqv]
    · simp [PyData.eqv, h2]
  · have h3 : ¬ sv a = sv c := fun z => h1 (sv_inj z)
    simp [PyData.eqv, h1, h3]
theorem eqv_st (p q : List Br) : PyData.eqv (py (stD p)) (py (stD q)) = decide (p = q) := eqvAll_map brD eqv_br p q
theorem eqv_cd (k k' n n' : Int) (s t : List (List Br)) : PyData.eqv (py (cdD k n s)) (py (cdD k' n' t)) = decide (k = k' ∧ n = n' ∧ s = t) := by
  have e := eqvAll_map stD eqv_st s t
  show (PyData.eqv (.int k) (.int k') && (PyData.eqv (.int n) (.int n') && (PyData.eqvAll (pyL (s.map stD)) (pyL (t.map stD)) && true))) = _
  rw [e]
  by_cases h1 : k = k'
  · subst h1
    by_cases h2 : n = n'
    · subst h2; simp [PyData.eqv]
    · simp [PyData.eqv, h2]
  · simp [PyData.eqv, h1]
theorem oEq_cd {k k' n n' : Int} {s t : List (List Br)} (c : Code k n s) (c' : Code k' n' t) : oEq (cdD k n s) (cdD k' n' t) = some (decide (k = k' ∧ n = n' ∧ s = t)) := by
  show (if (shp (cdD k n s) && shp (cdD k' n' t)) = true then some (PyData.eqv (py (cdD k n s)) (py (cdD k' n' t))) else none) = _
  rw [shp_ok (code_dle c) (by decide), shp_ok (code_dle c') (by decide), if_pos (by rfl), eqv_cd]
theorem st_inj {a b : List Br} (h : stD a = stD b) : a = b := by
  have h : a.map brD = b.map brD := D.lst.inj h
  refine (List.map_inj_right fun p q z => ?_).mp h
  have z := D.tup.inj z
  obtain ⟨z1, z2⟩ := List.cons.inj z
  obtain ⟨z2, _⟩ := List.cons.inj z2
  exact Prod.ext (D.str.inj z1) (D.int.inj z2)
theorem cd_inj {k k' n n' : Int} {s t : List (List Br)} (h : cdD k n s = cdD k' n' t) : k = k' ∧ n = n' ∧ s = t := by
  have z := D.tup.inj h
  obtain ⟨z1, z⟩ := List.cons.inj z
  obtain ⟨z2, z⟩ := List.cons.inj z
  obtain ⟨z3, _⟩ := List.cons.inj z
  exact ⟨D.int.inj z1, D.int.inj z2, (List.map_inj_right fun p q => st_inj).mp (D.lst.inj z3)⟩
theorem txt_inj {k k' n n' : Int} {s t : List (List Br)} (c : Code k n s) (c' : Code k' n' t) : decide (txA k n s = txA k' n' t) = decide (k = k' ∧ n = n' ∧ s = t) := by
  refine decide_eq_decide.mpr ⟨fun h => ?_, fun ⟨h1, h2, h3⟩ => by rw [h1, h2, h3]⟩
  have e1 := read_ok c
  have e2 := read_ok c'
  rw [h, e2] at e1
  exact cd_inj (FR.ok.inj e1).1.symm
/-! ### a code with one branch exchanged -/
theorem at_D {ds : List D} {j : Int} {x : D} (h : L2.atI ds j = some x) : ∃ m, atD (.lst ds) j = some (m, x) ∧ L2.ixN ds.length j = some m ∧ ds[m]? = some x := by
  obtain ⟨m, h1, h2⟩ := Option.bind_eq_some_iff.mp h
  refine ⟨m, ?_, h1, h2⟩
  show ((L2.ixN ds.length j).bind fun n => (ds[n]?).map fun d => (n, d)) = _
  rw [h1, Option.bind_some, h2]; rfl
theorem code_set {k n : Int} {states : List (List Br)} (c : Code k n states) {row : List Br} (hr : row ∈ states) {b : Br} (hb : BrOk n.toNat states.length b) (m1 m2 : Nat) : Code k n (states.set m1 (row.set m2 b)) := by
  have mem : ∀ st ∈ states.set m1 (row.set m2 b), st ∈ states ∨ st = row.set m2 b := fun st h => List.mem_or_eq_of_mem_set h
  refine ⟨c.k1, c.k3, c.n1, c.n6, by rw [List.length_set]; exact c.l1, by rw [List.length_set]; exact c.l8, fun st h => ?_, fun st h p hp => ?_⟩
  · rcases mem st h with z | rfl
    · exact c.sz st z
    · rw [List.length_set]; exact c.sz row hr
  · rw [List.length_set]
    rcases mem st h with z | rfl
    · exact c.br st z p hp
    · rcases List.mem_or_eq_of_mem_set hp with z | rfl
      · exact c.br row hr p z
      · exact hb
abbrev eLs : E := .op (.b1 .list) (.cons (.var 7) .nil)
theorem io_other : f15.io = 1 := rfl
theorem other_ok {d : D} (hd : StoOk d) {k n : Int} {states : List (List Br)} (c : Code k n states) :
    ∃ (states' : List (List Br)) (d' : D), f15.F [(d, 1), (cdD k n states, 0)] = .ok (cdD k n states') 1 [(d', 1)] ∧ Code k n states' ∧ StoOk d' := by
  have lk1 : look [f0, f1, f2, f3, f4, f5, f6, f7, f8, f9, f10, f11, f12, f13, f14] 1 = f1 := rfl
  have lk2 : look [f0, f1, f2, f3, f4, f5, f6, f7, f8, f9, f10, f11, f12, f13, f14] 2 = f2 := rfl
  have l1 := c.l1
  have l8 := c.l8
  have n1 := c.n1
  have n6 := c.n6
  obtain ⟨p, dk1, e1, p0, p1, hd1⟩ := tk hd (m := (states.length : Nat)) (by omega) (by omega)
  obtain ⟨a1, a2⟩ := c.st_at p0 p1
  have hsz := c.sz _ a1
  have hpw : 1 ≤ 2 ^ k.toNat ∧ 2 ^ k.toNat ≤ 8 := by
    have : k = 1 ∨ k = 2 ∨ k = 3 := by have := c.k1; have := c.k3; omega
    rcases this with rfl | rfl | rfl <;> exact ⟨by decide, by decide⟩
  obtain ⟨l, dk2, e2, q0, q1, hd2⟩ := tk hd1 (m := ((stAt states p).length : Nat)) (by omega) (by omega)
  have q1' : l < 2 ^ k.toNat := by
    rw [hsz] at q1
    exact_mod_cast q1
  obtain ⟨b1, b2⟩ := c.br_at p0 p1 q0 q1'
  obtain ⟨mp, g1, g2, g3⟩ := at_D a2
  obtain ⟨ml, j1, j2, j3⟩ := at_D b1
  obtain ⟨r, dk3, e3, r0, r1, hd3⟩ := tk hd2 (m := 2) (by decide) (by decide)
  obtain ⟨x, dk4, e4, x0, x1, hd4⟩ := tk hd3 (m := 64) (by decide) (by decide)
  obtain ⟨w, e5, hw⟩ := word_ok x n (by omega) (by omega)
  obtain ⟨y, dk5, e6, y0, y1, hd5⟩ := tk hd3 (m := (states.length : Nat)) (by omega) (by omega)
  have km := kcomp_map (ρ := look [f0, f1, f2, f3, f4, f5, f6, f7, f8, f9, f10, f11, f12, f13, f14]) (n := 1) (own := [7]) (t := .nm 7) (e := eLs) (env := [some (d, 1), some (cdD k n states, 0), none, none, none, none, none, none]) stD stD states rfl fun st hst =>
    ⟨[some (d, 1), some (cdD k n states, 0), none, none, none, none, none, some (stD st, 0)], rfl, (stD st, 1), [some (d, 1), some (cdD k n states, 0), none, none, none, none, none, some (stD st, 0)], rfl, rfl, rfl, rfl⟩
  have hB : ∃ b : Br, BrOk n.toNat states.length b ∧ b = (if r = 0 then (w, (brAt states p l).2) else ((brAt states p l).1, y)) := by
    refine ⟨_, ?_, rfl⟩
    by_cases hr : r = 0
    · rw [if_pos hr]; exact ⟨hw, b2.lo, b2.hi⟩
    · rw [if_neg hr]; exact ⟨b2.w, y0, y1⟩
  obtain ⟨b, hb, eb⟩ := hB
  refine ⟨states.set mp ((stAt states p).set ml b), if r = 0 then dk4 else dk5, ?_, code_set c a1 hb mp ml, by by_cases hr : r = 0 <;> simp [hr, hd4, hd5]⟩
  have sl : setL 0 (.lst ((stAt states p).map brD)) (brD b, 1) (.int l, 0) = some (.lst (((stAt states p).set ml b).map brD)) := by
    show (if okd 0 (brD b, 1) = true then (L2.ixN ((stAt states p).map brD).length l).map fun i => D.lst (((stAt states p).map brD).set i (brD b)) else none) = _
    rw [if_pos (show okd 0 (brD b, 1) = true from rfl), j2, List.map_set]; rfl
  have hst : ∀ row, setD (.lst (states.map stD)) mp (.lst (row.map brD)) = .lst ((states.set mp row).map stD) := fun row => by
    show D.lst ((states.map stD).set mp (stD row)) = _
    rw [List.map_set]
  have pv : ∀ env : Ev, env[3]? = some (some (.int p, 0)) → pathD env [.v 3] (.lst (states.map stD)) = some (.lst ((stAt states p).map brD)) := fun env h => by
    rw [path_cons, path_nil, Option.bind_some, pe_v h, Option.bind_some, g1]; rfl
  have pv2 : ∀ env : Ev, env[3]? = some (some (.int p, 0)) → env[4]? = some (some (.int l, 0)) → pathD env [.v 4, .v 3] (.lst (states.map stD)) = some (brD (brAt states p l)) := fun env h h' => by
    rw [path_cons, pv env h, Option.bind_some, pe_v h', Option.bind_some, j1]; rfl
  have put : ∀ (env : Ev) (z : D), env[3]? = some (some (.int p, 0)) → putP env [.v 3] (.lst (states.map stD)) z = setD (.lst (states.map stD)) mp z := fun env z h => put_cons path_nil (pe_v h) g1
  have pe4 : ∀ env : Ev, env[4]? = some (some (.int l, 0)) → evPe env (.v 4) = some l := fun env h => pe_v h
  have ixp : oIx (.lst (states.map stD)) (.int p) = some (.lst ((stAt states p).map brD), 0) := by
    show (L2.atI _ _).map (·, 0) = _
    rw [a2]; rfl
  have c2 : ∀ a b z : D, oIx (.tup [a, b, z]) (.int 2) = some (z, 0) := fun _ _ _ => rfl
  have c1' : ∀ a b z : D, oIx (.tup [a, b, z]) (.int 1) = some (b, 0) := fun _ _ _ => rfl
  have c0' : ∀ a b z : D, oIx (.tup [a, b, z]) (.int 0) = some (a, 0) := fun _ _ _ => rfl
  have ol : oB1 .len (.lst (states.map stD)) = some (.int ((states.length : Nat) : Int), 0) := by
    show some (D.int (((states.map stD).length : Nat) : Int), 0) = _
    rw [List.length_map]
  have ol2 : oB1 .len (.lst ((stAt states p).map brD)) = some (.int (((stAt states p).length : Nat) : Int), 0) := by
    show some (D.int ((((stAt states p).map brD).length : Nat) : Int), 0) = _
    rw [List.length_map]
  unfold f15
  rw [r_runF rfl]
  have hc2 : cdD k n (states.set mp ((stAt states p).set ml b)) = .tup [.int k, .int n, .lst ((states.set mp ((stAt states p).set ml b)).map stD)] := rfl
  rw [hc2, ← hst]
  simp only [cdD, eLs] at *
  by_cases hr : r = 0
  · rw [if_pos hr] at eb ⊢
    subst eb
    generalize states.map stD = SS at *
    generalize ((stAt states p).set ml (w, (brAt states p l).2)).map brD = R2 at *
    generalize (stAt states p).map brD = RR at *
    generalize ((stAt states p).length : Int) = LR at *
    generalize (states.length : Int) = LS at *
    generalize brAt states p l = B at *
    simp only [brD] at *
    simp -implicitDefEqProofs [d15, r_bind_ok, r_res_some, r_OBt, s_nil, s_one, k_nx, k_ret, k_brk, k_cnt, s_kill, s_frz, s_set, s_unp, k_unp, s_ifs, k_ifT, k_ifF, s_fr, s_ret, s_ex, s_setix, s_brk, s_cnt, s_pass, e_var, k_var, e_frz, k_frz, e_mv, k_mv, e_cst, k_cst, c_int, c_bl, c_non, c_str, e_op, a_nil, a_cons, e_lend, t_lend, k_lend, k_lendT, e_and, e_or, e_not, t_and, t_or, t_not, t_op, t_var, t_call, t_cio, t_cst, k_andTT, k_andTF, k_orTT, k_orTF, k_andOT, k_andOF, k_orOT, k_orOF, k_notO, e_lst, e_tup, e_call, e_cio, k_cio, k_out, e_cit, k_cit, e_comp, e_idx, k_idx, e_mut, k_mutS1, k_mutO, k_setS1, k_setO, e_slc, o_no, i_rng1, k_rng1, i_ex, k_itrL, r_fl, at0, at1, at2, oEq_int, oEq_str, kSet, kUnp, kRet, kEx, kCons, kCons2, kOp, kTest, kAnd, kOr, kNot, kNotT, kLst, kTup, kCall, kCio, kCit, kCit2, kComp2, kIdx, kMut, kSetix, kSetix2, kSlc, kSlc2, kSlc3, kFor, inits, opSem, oCmp, okd, flat, truth, getSlots, upto, bindT, bindTs, wipeE, frzE, retC, freeze1, putSlots, nodupB, oB2, mutL, isOwnL, big, oMk, oCk, full, fullL, lendE_nil, lendE_cons, lendS_none, lendS_some, s_blk, k_blk, k_blkM, mergeE, s_whl, s_inc, k_incO, k_inc2, kInc2, o_so, k_so, ot_so, ot_no, e_callv, t_callv, k_callvS, k_callvL, kCallvR, retN, kChnE, kChnA, kChnB, e_chn, t_chn, k_chnT, k_chnF, kChn3A, kChn3B, kChn3F, e_chn3, t_chn3, k_chn3T, k_chn3F, r_OBr, r_nxE, i_rng3, kR3a, kR3b, kR3c, e_mutp, k_pm3, k_pm2, kPm1, k_pm, s_setp, kSp4, k_sp3, k_sp2, k_sp1, k_sp, pe_k, e_pth, k_pth, k_pth2, bindT, bindTs, lk1, lk2, io_take, io_word, e1, e2, e3, e4, e5, km, hr, ixp, c2, c1', c0', ol, ol2, pv, pv2, put, pe4, sl]
  · rw [if_neg hr] at eb ⊢
    subst eb
    generalize states.map stD = SS at *
    generalize ((stAt states p).set ml ((brAt states p l).1, y)).map brD = R2 at *
    generalize (stAt states p).map brD = RR at *
    generalize ((stAt states p).length : Int) = LR at *
    generalize (states.length : Int) = LS at *
    generalize brAt states p l = B at *
    simp only [brD] at *
    simp -implicitDefEqProofs [d15, r_bind_ok, r_res_some, r_OBt, s_nil, s_one, k_nx, k_ret, k_brk, k_cnt, s_kill, s_frz, s_set, s_unp, k_unp, s_ifs, k_ifT, k_ifF, s_fr, s_ret, s_ex, s_setix, s_brk, s_cnt, s_pass, e_var, k_var, e_frz, k_frz, e_mv, k_mv, e_cst, k_cst, c_int, c_bl, c_non, c_str, e_op, a_nil, a_cons, e_lend, t_lend, k_lend, k_lendT, e_and, e_or, e_not, t_and, t_or, t_not, t_op, t_var, t_call, t_cio, t_cst, k_andTT, k_andTF, k_orTT, k_orTF, k_andOT, k_andOF, k_orOT, k_orOF, k_notO, e_lst, e_tup, e_call, e_cio, k_cio, k_out, e_cit, k_cit, e_comp, e_idx, k_idx, e_mut, k_mutS1, k_mutO, k_setS1, k_setO, e_slc, o_no, i_rng1, k_rng1, i_ex, k_itrL, r_fl, at0, at1, at2, oEq_int, oEq_str, kSet, kUnp, kRet, kEx, kCons, kCons2, kOp, kTest, kAnd, kOr, kNot, kNotT, kLst, kTup, kCall, kCio, kCit, kCit2, kComp2, kIdx, kMut, kSetix, kSetix2, kSlc, kSlc2, kSlc3, kFor, inits, opSem, oCmp, okd, flat, truth, getSlots, upto, bindT, bindTs, wipeE, frzE, retC, freeze1, putSlots, nodupB, oB2, mutL, isOwnL, big, oMk, oCk, full, fullL, lendE_nil, lendE_cons, lendS_none, lendS_some, s_blk, k_blk, k_blkM, mergeE, s_whl, s_inc, k_incO, k_inc2, kInc2, o_so, k_so, ot_so, ot_no, e_callv, t_callv, k_callvS, k_callvL, kCallvR, retN, kChnE, kChnA, kChnB, e_chn, t_chn, k_chnT, k_chnF, kChn3A, kChn3B, kChn3F, e_chn3, t_chn3, k_chn3T, k_chn3F, r_OBr, r_nxE, i_rng3, kR3a, kR3b, kR3c, e_mutp, k_pm3, k_pm2, kPm1, k_pm, s_setp, kSp4, k_sp3, k_sp2, k_sp1, k_sp, pe_k, e_pth, k_pth, k_pth2, bindT, bindTs, lk1, lk2, io_take, io_word, e1, e2, e3, e6, km, hr, ixp, c2, c1', c0', ol, ol2, pv, pv2, put, pe4, sl]
/-! ### _law_rows, _law_sent -/
theorem io_rows : f13.io = 1 := rfl
abbrev eRw : E := .cio 1 [0] (.cons (.var 3) .nil)
theorem ints_of' {k : Int} : ∀ {ys : List D}, (∀ y ∈ ys, ∃ l : Int, y = .int l ∧ 0 ≤ l ∧ l < 2 ^ k.toNat) → ∃ text : List Int, ys = text.map .int ∧ LetOk k text
  | [], _ => ⟨[], rfl, fun _ h => nomatch h⟩
  | y :: ys, h => by
    obtain ⟨l, rfl, h1, h2⟩ := h y List.mem_cons_self
    obtain ⟨text, rfl, ht⟩ := ints_of' (k := k) (ys := ys) fun z hz => h z (List.mem_cons_of_mem _ hz)
    exact ⟨l :: text, rfl, fun m hm => (List.mem_cons.mp hm).elim (fun e => e ▸ ⟨h1, h2⟩) (ht m)⟩
theorem rows_ok {d : D} (hd : StoOk d) {k n : Int} {states : List (List Br)} (c : Code k n states) {most : Int} (m0 : 0 ≤ most) (m1 : most ≤ 1000) :
    ∃ (p : Int) (text : List Int) (d' : D), f13.F [(d, 1), (cdD k n states, 0), (.int most, 0)] = .ok (.tup [.int p, ils text]) 1 [(d', 1)] ∧ 0 ≤ p ∧ p < states.length ∧ LetOk k text ∧ text.length ≤ 1000 ∧ StoOk d' := by
  have lk1 : look [f0, f1, f2, f3, f4, f5, f6, f7, f8, f9, f10, f11, f12] 1 = f1 := rfl
  have l1 := c.l1
  have l8 := c.l8
  have k1 := c.k1
  have k3 := c.k3
  obtain ⟨p, dk1, e1, p0, p1, hd1⟩ := tk hd (m := (states.length : Nat)) (by omega) (by omega)
  obtain ⟨r, dk2, e2, r0, r1, hd2⟩ := tk hd1 (m := most + 1) (by omega) (by omega)
  have szP : (0 : Int) < 2 ^ k.toNat ∧ (2 : Int) ^ k.toNat < 1000 := by
    have : k = 1 ∨ k = 2 ∨ k = 3 := by omega
    rcases this with rfl | rfl | rfl <;> exact ⟨by decide, by decide⟩
  have hsz := size_at k1 k3
  have sz : oIx (.lst [.int 2, .int 4, .int 8]) (.int (k - 1)) = some (.int (2 ^ k.toNat), 0) := by
    show (L2.atI _ _).map (·, 0) = _
    rw [hsz]; rfl
  obtain ⟨ys, env', e6, ⟨dk6, rfl, hd6⟩, hpl, hy⟩ := kcomp_st (ρ := look [f0, f1, f2, f3, f4, f5, f6, f7, f8, f9, f10, f11, f12]) (n := 0) (own := [5]) (t := .nm 5) (e := eRw) (env := [some (dk2, 1), some (cdD k n states, 0), some (.int most, 0), some (.int (2 ^ k.toNat), 0), some (.int p, 0), none])
    (fun env => ∃ d : D, env = [some (d, 1), some (cdD k n states, 0), some (.int most, 0), some (.int (2 ^ k.toNat), 0), some (.int p, 0), none] ∧ StoOk d) (fun y => ∃ l : Int, y = .int l ∧ 0 ≤ l ∧ l < 2 ^ k.toNat) (rangeL 0 1 r.toNat) rfl ⟨dk2, rfl, hd2⟩ fun x hx env' ⟨d, e, hd⟩ => by
      subst e
      obtain ⟨i, hi, rfl⟩ := mem_rangeL hx
      obtain ⟨l, dk7, q, q0, q1, hd7⟩ := tk hd (m := 2 ^ k.toNat) szP.1 (by omega)
      refine ⟨_, (.int l, 0), [some (dk7, 1), some (cdD k n states, 0), some (.int most, 0), some (.int (2 ^ k.toNat), 0), some (.int p, 0), some (.int (i : Int), 0)], rfl, ?_, rfl, ⟨l, rfl, q0, q1⟩, dk7, rfl, hd7⟩
      generalize (2 : Int) ^ k.toNat = P at *
      generalize cdD k n states = CD at *
      simp [wipeE, r_bind_ok, r_res_some, r_OBt, s_nil, s_one, k_nx, k_ret, k_brk, k_cnt, s_kill, s_frz, s_set, s_unp, k_unp, s_ifs, k_ifT, k_ifF, s_fr, s_ret, s_ex, s_setix, s_brk, s_cnt, s_pass, e_var, k_var, e_frz, k_frz, e_mv, k_mv, e_cst, k_cst, c_int, c_bl, c_non, c_str, e_op, a_nil, a_cons, e_lend, t_lend, k_lend, k_lendT, e_and, e_or, e_not, t_and, t_or, t_not, t_op, t_var, t_call, t_cio, t_cst, k_andTT, k_andTF, k_orTT, k_orTF, k_andOT, k_andOF, k_orOT, k_orOF, k_notO, e_lst, e_tup, e_call, e_cio, k_cio, k_out, e_cit, k_cit, e_comp, e_idx, k_idx, e_mut, k_mutS1, k_mutO, k_setS1, k_setO, e_slc, o_no, i_rng1, k_rng1, i_ex, k_itrL, r_fl, at0, at1, at2, oEq_int, oEq_str, kSet, kUnp, kRet, kEx, kCons, kCons2, kOp, kTest, kAnd, kOr, kNot, kNotT, kLst, kTup, kCall, kCio, kCit, kCit2, kComp2, kIdx, kMut, kSetix, kSetix2, kSlc, kSlc2, kSlc3, kFor, inits, opSem, oBin, oCmp, oIx, setL, okd, flat, truth, getSlots, upto, bindT, bindTs, wipeE, frzE, retC, freeze1, putSlots, nodupB, oB1, oB2, mutL, isOwnL, big, oMk, oCk, full, fullL, lendE_nil, lendE_cons, lendS_none, lendS_some, s_blk, k_blk, k_blkM, mergeE, s_whl, s_inc, k_incO, k_inc2, kInc2, o_so, k_so, oSlc, ot_so, ot_no, e_callv, t_callv, k_callvS, k_callvL, kCallvR, retN, kChnE, kChnA, kChnB, e_chn, t_chn, k_chnT, k_chnF, kChn3A, kChn3B, kChn3F, e_chn3, t_chn3, k_chn3T, k_chn3F, r_OBr, r_nxE, i_rng3, kR3a, kR3b, kR3c, e_mutp, k_pm3, k_pm2, kPm1, k_pm, s_setp, kSp4, k_sp3, k_sp2, k_sp1, k_sp, pe_k, e_pth, k_pth, k_pth2, lk1, io_take, q]
  obtain ⟨text, rfl, ht⟩ := ints_of' hy
  rw [List.length_map, rangeL_len] at hpl
  refine ⟨p, text, dk6, ?_, p0, p1, ht, by omega, hd6⟩
  have c2 : ∀ a b z : D, oIx (.tup [a, b, z]) (.int 2) = some (z, 0) := fun _ _ _ => rfl
  have c0' : ∀ a b z : D, oIx (.tup [a, b, z]) (.int 0) = some (a, 0) := fun _ _ _ => rfl
  have ol : oB1 .len (.lst (states.map stD)) = some (.int ((states.length : Nat) : Int), 0) := by
    show some (D.int (((states.map stD).length : Nat) : Int), 0) = _
    rw [List.length_map]
  have rg : kRng1 (.int r, 0) = fun env => .ok (rangeL 0 1 r.toNat) env := by
    funext env
    show (if -(2 ^ 62) ≤ r ∧ r.toNat ≤ big then Res.ok (rangeL 0 1 r.toNat) env else .bad) = _
    rw [if_pos ⟨by omega, by show _ ≤ 16777216; omega⟩]
  have ob1 : oBin .sub (.int k) (.int 1) = some (.int (k - 1), 0) := rfl
  have ob2 : oBin .add (.int most) (.int 1) = some (.int (most + 1), 0) := rfl
  unfold f13
  rw [r_runF rfl]
  simp only [cdD, eRw, ils] at *
  generalize (2 : Int) ^ k.toNat = P at *
  generalize states.map stD = SS at *
  generalize text.map D.int = TT at *
  generalize (states.length : Int) = LS at *
  generalize rangeL 0 1 r.toNat = RG at *
  simp -implicitDefEqProofs [d13, r_bind_ok, r_res_some, r_OBt, s_nil, s_one, k_nx, k_ret, k_brk, k_cnt, s_kill, s_frz, s_set, s_unp, k_unp, s_ifs, k_ifT, k_ifF, s_fr, s_ret, s_ex, s_setix, s_brk, s_cnt, s_pass, e_var, k_var, e_frz, k_frz, e_mv, k_mv, e_cst, k_cst, c_int, c_bl, c_non, c_str, e_op, a_nil, a_cons, e_lend, t_lend, k_lend, k_lendT, e_and, e_or, e_not, t_and, t_or, t_not, t_op, t_var, t_call, t_cio, t_cst, k_andTT, k_andTF, k_orTT, k_orTF, k_andOT, k_andOF, k_orOT, k_orOF, k_notO, e_lst, e_tup, e_call, e_cio, k_cio, k_out, e_cit, k_cit, e_comp, e_idx, k_idx, e_mut, k_mutS1, k_mutO, k_setS1, k_setO, e_slc, o_no, i_rng1, i_ex, k_itrL, r_fl, at0, at1, at2, oEq_int, oEq_str, kSet, kUnp, kRet, kEx, kCons, kCons2, kOp, kTest, kAnd, kOr, kNot, kNotT, kLst, kTup, kCall, kCio, kCit, kCit2, kComp2, kIdx, kMut, kSetix, kSetix2, kSlc, kSlc2, kSlc3, kFor, inits, opSem, oCmp, okd, flat, truth, getSlots, upto, bindT, bindTs, wipeE, frzE, retC, freeze1, putSlots, nodupB, oB2, mutL, isOwnL, big, oMk, oCk, full, fullL, lendE_nil, lendE_cons, lendS_none, lendS_some, s_blk, k_blk, k_blkM, mergeE, s_whl, s_inc, k_incO, k_inc2, kInc2, o_so, k_so, ot_so, ot_no, e_callv, t_callv, k_callvS, k_callvL, kCallvR, retN, kChnE, kChnA, kChnB, e_chn, t_chn, k_chnT, k_chnF, kChn3A, kChn3B, kChn3F, e_chn3, t_chn3, k_chn3T, k_chn3F, r_OBr, r_nxE, i_rng3, kR3a, kR3b, kR3c, e_mutp, k_pm3, k_pm2, kPm1, k_pm, s_setp, kSp4, k_sp3, k_sp2, k_sp1, k_sp, pe_k, e_pth, k_pth, k_pth2, lk1, io_take, e1, e2, sz, c2, c0', ol, rg, ob1, ob2, e6]
theorem io_lsent : f18.io = 0 := rfl
theorem lsent_loop {k n : Int} {states : List (List Br)} (c : Code k n states) (ρ : Nat → Fn) (tx : D) : ∀ {text : List Int} {s : Int} {w : List Nat} {s4 s5 : Pv.Slot}, LetOk k text → 0 ≤ s → s < states.length → w.length + text.length * 6 ≤ 1000000 →
    ∃ s4' s5', floop (.nm 4) (evS ρ b18_0) (text.map .int) [some (cdD k n states, 0), some (.int s, 0), some (tx, 0), some (.str w, 0), s4, s5] = .ok .nx [some (cdD k n states, 0), some (.int (endL states s text), 0), some (tx, 0), some (.str (w ++ wireL states s text), 0), s4', s5']
  | [], s, w, s4, s5, _, _, _, _ => ⟨s4, s5, by rw [show w ++ wireL states s [] = w from List.append_nil w]; rfl⟩
  | l :: r, s, w, s4, s5, ht, h0, h1, hw => by
    obtain ⟨q1, q2⟩ := ht l List.mem_cons_self
    obtain ⟨b1, b2⟩ := c.br_at h0 h1 q1 q2
    obtain ⟨a1, a2⟩ := c.st_at h0 h1
    have n6 := c.n6
    have bw := b2.w.1
    rw [List.length_cons] at hw
    obtain ⟨s4', s5', ih⟩ := lsent_loop c ρ tx (text := r) (s := (brAt states s l).2) (w := w ++ (brAt states s l).1) (s4 := some (.int l, 0)) (s5 := some (.str (brAt states s l).1, 0)) (fun x hx => ht x (List.mem_cons_of_mem _ hx)) b2.lo b2.hi (by rw [List.length_append]; omega)
    refine ⟨s4', s5', ?_⟩
    have ew : wireL states s (l :: r) = (brAt states s l).1 ++ wireL states (brAt states s l).2 r := rfl
    have ee : endL states s (l :: r) = endL states (brAt states s l).2 r := rfl
    rw [List.map_cons, ew, ee, ← List.append_assoc]
    show (match evS ρ b18_0 [some (cdD k n states, 0), some (.int s, 0), some (tx, 0), some (.str w, 0), some (.int l, 0), s5] with
      | .ok .nx env2 => floop (.nm 4) (evS ρ b18_0) (r.map .int) env2
      | .ok .cnt env2 => floop (.nm 4) (evS ρ b18_0) (r.map .int) env2
      | .ok .brk env2 => .ok .nx env2
      | r => r) = _
    have hwl : w.length + (brAt states s l).1.length ≤ 16777216 := by omega
    have e : evS ρ b18_0 [some (cdD k n states, 0), some (.int s, 0), some (tx, 0), some (.str w, 0), some (.int l, 0), s5] = .ok .nx [some (cdD k n states, 0), some (.int (brAt states s l).2, 0), some (tx, 0), some (.str (w ++ (brAt states s l).1), 0), some (.int l, 0), some (.str (brAt states s l).1, 0)] := by
      have c2 : ∀ a b z : D, oIx (.tup [a, b, z]) (.int 2) = some (z, 0) := fun _ _ _ => rfl
      have ix1 : oIx (.lst (states.map stD)) (.int s) = some (.lst ((stAt states s).map brD), 0) := by
        show (L2.atI _ _).map (·, 0) = _
        rw [a2]; rfl
      have ix2 : oIx (.lst ((stAt states s).map brD)) (.int l) = some (brD (brAt states s l), 0) := by
        show (L2.atI _ _).map (·, 0) = _
        rw [b1]; rfl
      simp only [cdD] at *
      generalize brAt states s l = b at *
      generalize (stAt states s).map brD = st at *
      generalize states.map stD = SS at *
      simp only [brD] at *
      simp -implicitDefEqProofs [b18_0, r_bind_ok, r_res_some, r_OBt, s_nil, s_one, k_nx, k_ret, k_brk, k_cnt, s_kill, s_frz, s_set, s_unp, k_unp, s_ifs, k_ifT, k_ifF, s_fr, s_ret, s_ex, s_setix, s_brk, s_cnt, s_pass, e_var, k_var, e_frz, k_frz, e_mv, k_mv, e_cst, k_cst, c_int, c_bl, c_non, c_str, e_op, a_nil, a_cons, e_lend, t_lend, k_lend, k_lendT, e_and, e_or, e_not, t_and, t_or, t_not, t_op, t_var, t_call, t_cio, t_cst, k_andTT, k_andTF, k_orTT, k_orTF, k_andOT, k_andOF, k_orOT, k_orOF, k_notO, e_lst, e_tup, e_call, e_cio, k_cio, k_out, e_cit, k_cit, e_comp, e_idx, k_idx, e_mut, k_mutS1, k_mutO, k_setS1, k_setO, e_slc, o_no, i_rng1, k_rng1, i_ex, k_itrL, r_fl, at0, at1, at2, oEq_int, oEq_str, kSet, kUnp, kRet, kEx, kCons, kCons2, kOp, kTest, kAnd, kOr, kNot, kNotT, kLst, kTup, kCall, kCio, kCit, kCit2, kComp2, kIdx, kMut, kSetix, kSetix2, kSlc, kSlc2, kSlc3, kFor, inits, opSem, oBin, oCmp, setL, okd, flat, truth, getSlots, upto, bindT, bindTs, wipeE, frzE, retC, freeze1, putSlots, nodupB, oB1, oB2, mutL, isOwnL, big, oMk, oCk, full, fullL, lendE_nil, lendE_cons, lendS_none, lendS_some, s_blk, k_blk, k_blkM, mergeE, s_whl, s_inc, k_incO, k_inc2, kInc2, o_so, k_so, oSlc, ot_so, ot_no, e_callv, t_callv, k_callvS, k_callvL, kCallvR, retN, kChnE, kChnA, kChnB, e_chn, t_chn, k_chnT, k_chnF, kChn3A, kChn3B, kChn3F, e_chn3, t_chn3, k_chn3T, k_chn3F, r_OBr, r_nxE, i_rng3, kR3a, kR3b, kR3c, e_mutp, k_pm3, k_pm2, kPm1, k_pm, s_setp, kSp4, k_sp3, k_sp2, k_sp1, k_sp, pe_k, e_pth, k_pth, k_pth2, bindT, bindTs, c2, ix1, ix2, hwl]
    rw [e]
    exact ih
theorem lsent_ok {k n : Int} {states : List (List Br)} (c : Code k n states) {s : Int} (h0 : 0 ≤ s) (h1 : s < states.length) {text : List Int} (ht : LetOk k text) (hl : text.length ≤ 100000) :
    f18.F [(cdD k n states, 0), (.int s, 0), (ils text, 0)] = .ok (.tup [.str (wireL states s text), .int (endL states s text)]) 1 [] := by
  obtain ⟨s4', s5', h⟩ := lsent_loop c (look [f0, f1, f2, f3, f4, f5, f6, f7, f8, f9, f10, f11, f12, f13, f14, f15, f16, f17]) (ils text) (text := text) (s := s) (w := []) (s4 := none) (s5 := none) ht h0 h1 (by simp; omega)
  rw [List.nil_append] at h
  unfold f18
  rw [r_runF rfl]
  generalize wireL states s text = W at *
  generalize endL states s text = en at *
  generalize cdD k n states = CD at *
  simp only [ils] at *
  have sE' : (Str.ofString "").cps.toList = [] := by decide
  simp -implicitDefEqProofs [d18, r_bind_ok, r_res_some, r_OBt, s_nil, s_one, k_nx, k_ret, k_brk, k_cnt, s_kill, s_frz, s_set, s_unp, k_unp, s_ifs, k_ifT, k_ifF, s_fr, s_ret, s_ex, s_setix, s_brk, s_cnt, s_pass, e_var, k_var, e_frz, k_frz, e_mv, k_mv, e_cst, k_cst, c_int, c_bl, c_non, c_str, e_op, a_nil, a_cons, e_lend, t_lend, k_lend, k_lendT, e_and, e_or, e_not, t_and, t_or, t_not, t_op, t_var, t_call, t_cio, t_cst, k_andTT, k_andTF, k_orTT, k_orTF, k_andOT, k_andOF, k_orOT, k_orOF, k_notO, e_lst, e_tup, e_call, e_cio, k_cio, k_out, e_cit, k_cit, e_comp, e_idx, k_idx, e_mut, k_mutS1, k_mutO, k_setS1, k_setO, e_slc, o_no, i_rng1, k_rng1, i_ex, k_itrL, r_fl, at0, at1, at2, oEq_int, oEq_str, kSet, kUnp, kRet, kEx, kCons, kCons2, kOp, kTest, kAnd, kOr, kNot, kNotT, kLst, kTup, kCall, kCio, kCit, kCit2, kComp2, kIdx, kMut, kSetix, kSetix2, kSlc, kSlc2, kSlc3, kFor, inits, opSem, oBin, oCmp, oIx, setL, okd, flat, truth, getSlots, upto, bindT, bindTs, wipeE, frzE, retC, freeze1, putSlots, nodupB, oB1, oB2, mutL, isOwnL, big, oMk, oCk, full, fullL, lendE_nil, lendE_cons, lendS_none, lendS_some, s_blk, k_blk, k_blkM, mergeE, s_whl, s_inc, k_incO, k_inc2, kInc2, o_so, k_so, oSlc, ot_so, ot_no, e_callv, t_callv, k_callvS, k_callvL, kCallvR, retN, kChnE, kChnA, kChnB, e_chn, t_chn, k_chnT, k_chnF, kChn3A, kChn3B, kChn3F, e_chn3, t_chn3, k_chn3T, k_chn3F, r_OBr, r_nxE, i_rng3, kR3a, kR3b, kR3c, e_mutp, k_pm3, k_pm2, kPm1, k_pm, s_setp, kSp4, k_sp3, k_sp2, k_sp1, k_sp, pe_k, e_pth, k_pth, k_pth2, sE', h]
/-! ### the law -/
theorem st3 {d : D} (hd : StoOk d) {k n ko no : Int} {states so : List (List Br)} (c : Code k n states) (co : Code ko no so) (s0 : D) (s1 s5 s6 s7 s8 : Pv.Slot) :
    ∃ (d' : D) (k' n' : Int) (st' : List (List Br)), evS (look [f0, f1, f2, f3, f4, f5, f6, f7, f8, f9, f10, f11, f12, f13, f14, f15, f16, f17, f18, f19, f20, f21, f22, f23, f24]) b25_3 [some (s0, 0), s1, some (d, 1), some (cdD k n states, 0), some (cdD ko no so, 0), s5, s6, s7, s8] = .ok .nx [some (s0, 0), s1, some (d', 1), some (cdD k n states, 0), some (cdD k' n' st', 0), s5, s6, s7, s8] ∧ Code k' n' st' ∧ StoOk d' := by
  have lk : look [f0, f1, f2, f3, f4, f5, f6, f7, f8, f9, f10, f11, f12, f13, f14, f15, f16, f17, f18, f19, f20, f21, f22, f23, f24] 1 = f1 := rfl
  have lk2 : look [f0, f1, f2, f3, f4, f5, f6, f7, f8, f9, f10, f11, f12, f13, f14, f15, f16, f17, f18, f19, f20, f21, f22, f23, f24] 15 = f15 := rfl
  obtain ⟨r1, dk1, e1, p1, p1', hd1⟩ := tk hd (m := 2) (by decide) (by decide)
  by_cases hr : r1 = 0
  · obtain ⟨st', dk2, e2, c', hd2⟩ := other_ok hd1 c
    refine ⟨dk2, k, n, st', ?_, c', hd2⟩
    generalize cdD k n st' = C2 at *
    generalize cdD k n states = CD at *
    generalize cdD ko no so = CO at *
    simp -implicitDefEqProofs [b25_3, r_bind_ok, r_res_some, r_OBt, s_nil, s_one, k_nx, k_ret, k_brk, k_cnt, s_kill, s_frz, s_set, s_unp, k_unp, s_ifs, k_ifT, k_ifF, s_fr, s_ret, s_ex, s_setix, s_brk, s_cnt, s_pass, e_var, k_var, e_frz, k_frz, e_mv, k_mv, e_cst, k_cst, c_int, c_bl, c_non, c_str, e_op, a_nil, a_cons, e_lend, t_lend, k_lend, k_lendT, e_and, e_or, e_not, t_and, t_or, t_not, t_op, t_var, t_call, t_cio, t_cst, k_andTT, k_andTF, k_orTT, k_orTF, k_andOT, k_andOF, k_orOT, k_orOF, k_notO, e_lst, e_tup, e_call, e_cio, k_cio, k_out, e_cit, k_cit, e_comp, e_idx, k_idx, e_mut, k_mutS1, k_mutO, k_setS1, k_setO, e_slc, o_no, i_rng1, k_rng1, i_ex, k_itrL, r_fl, at0, at1, at2, oEq_int, oEq_str, kSet, kUnp, kRet, kEx, kCons, kCons2, kOp, kTest, kAnd, kOr, kNot, kNotT, kLst, kTup, kCall, kCio, kCit, kCit2, kComp2, kIdx, kMut, kSetix, kSetix2, kSlc, kSlc2, kSlc3, kFor, inits, opSem, oCmp, okd, flat, truth, getSlots, upto, bindT, bindTs, wipeE, frzE, retC, freeze1, putSlots, nodupB, oB2, mutL, isOwnL, big, oMk, oCk, full, fullL, lendE_nil, lendE_cons, lendS_none, lendS_some, s_blk, k_blk, k_blkM, mergeE, s_whl, s_inc, k_incO, k_inc2, kInc2, o_so, k_so, ot_so, ot_no, e_callv, t_callv, k_callvS, k_callvL, kCallvR, retN, kChnE, kChnA, kChnB, e_chn, t_chn, k_chnT, k_chnF, kChn3A, kChn3B, kChn3F, e_chn3, t_chn3, k_chn3T, k_chn3F, r_OBr, r_nxE, i_rng3, kR3a, kR3b, kR3c, e_mutp, k_pm3, k_pm2, kPm1, k_pm, s_setp, kSp4, k_sp3, k_sp2, k_sp1, k_sp, pe_k, e_pth, k_pth, k_pth2, lk, lk2, io_take, io_other, e1, e2, hr]
  · refine ⟨dk1, ko, no, so, ?_, co, hd1⟩
    generalize cdD k n states = CD at *
    generalize cdD ko no so = CO at *
    simp -implicitDefEqProofs [b25_3, r_bind_ok, r_res_some, r_OBt, s_nil, s_one, k_nx, k_ret, k_brk, k_cnt, s_kill, s_frz, s_set, s_unp, k_unp, s_ifs, k_ifT, k_ifF, s_fr, s_ret, s_ex, s_setix, s_brk, s_cnt, s_pass, e_var, k_var, e_frz, k_frz, e_mv, k_mv, e_cst, k_cst, c_int, c_bl, c_non, c_str, e_op, a_nil, a_cons, e_lend, t_lend, k_lend, k_lendT, e_and, e_or, e_not, t_and, t_or, t_not, t_op, t_var, t_call, t_cio, t_cst, k_andTT, k_andTF, k_orTT, k_orTF, k_andOT, k_andOF, k_orOT, k_orOF, k_notO, e_lst, e_tup, e_call, e_cio, k_cio, k_out, e_cit, k_cit, e_comp, e_idx, k_idx, e_mut, k_mutS1, k_mutO, k_setS1, k_setO, e_slc, o_no, i_rng1, k_rng1, i_ex, k_itrL, r_fl, at0, at1, at2, oEq_int, oEq_str, kSet, kUnp, kRet, kEx, kCons, kCons2, kOp, kTest, kAnd, kOr, kNot, kNotT, kLst, kTup, kCall, kCio, kCit, kCit2, kComp2, kIdx, kMut, kSetix, kSetix2, kSlc, kSlc2, kSlc3, kFor, inits, opSem, oCmp, okd, flat, truth, getSlots, upto, bindT, bindTs, wipeE, frzE, retC, freeze1, putSlots, nodupB, oB2, mutL, isOwnL, big, oMk, oCk, full, fullL, lendE_nil, lendE_cons, lendS_none, lendS_some, s_blk, k_blk, k_blkM, mergeE, s_whl, s_inc, k_incO, k_inc2, kInc2, o_so, k_so, ot_so, ot_no, e_callv, t_callv, k_callvS, k_callvL, kCallvR, retN, kChnE, kChnA, kChnB, e_chn, t_chn, k_chnT, k_chnF, kChn3A, kChn3B, kChn3F, e_chn3, t_chn3, k_chn3T, k_chn3F, r_OBr, r_nxE, i_rng3, kR3a, kR3b, kR3c, e_mutp, k_pm3, k_pm2, kPm1, k_pm, s_setp, kSp4, k_sp3, k_sp2, k_sp1, k_sp, pe_k, e_pth, k_pth, k_pth2, lk, io_take, e1, hr]
theorem body_ok (ns : List Int) (i : Nat) (hi : i < 12) (s2 s3 s4 s5 s6 s7 s8 : Pv.Slot) :
    ∃ s2' s3' s4' s5' s6' s7' s8', evS (look [f0, f1, f2, f3, f4, f5, f6, f7, f8, f9, f10, f11, f12, f13, f14, f15, f16, f17, f18, f19, f20, f21, f22, f23, f24]) b25_4 [some (.scr (ns.map .int), 0), some (.int (i : Int), 0), s2, s3, s4, s5, s6, s7, s8] = .ok .nx [some (.scr (ns.map .int), 0), some (.int (i : Int), 0), s2', s3', s4', s5', s6', s7', s8'] := by
  have l0 : look [f0, f1, f2, f3, f4, f5, f6, f7, f8, f9, f10, f11, f12, f13, f14, f15, f16, f17, f18, f19, f20, f21, f22, f23, f24] 0 = f0 := rfl
  have l1 : look [f0, f1, f2, f3, f4, f5, f6, f7, f8, f9, f10, f11, f12, f13, f14, f15, f16, f17, f18, f19, f20, f21, f22, f23, f24] 14 = f14 := rfl
  have l2 : look [f0, f1, f2, f3, f4, f5, f6, f7, f8, f9, f10, f11, f12, f13, f14, f15, f16, f17, f18, f19, f20, f21, f22, f23, f24] 4 = f4 := rfl
  have l3 : look [f0, f1, f2, f3, f4, f5, f6, f7, f8, f9, f10, f11, f12, f13, f14, f15, f16, f17, f18, f19, f20, f21, f22, f23, f24] 5 = f5 := rfl
  have l4 : look [f0, f1, f2, f3, f4, f5, f6, f7, f8, f9, f10, f11, f12, f13, f14, f15, f16, f17, f18, f19, f20, f21, f22, f23, f24] 12 = f12 := rfl
  have l5 : look [f0, f1, f2, f3, f4, f5, f6, f7, f8, f9, f10, f11, f12, f13, f14, f15, f16, f17, f18, f19, f20, f21, f22, f23, f24] 24 = f24 := rfl
  have l6 : look [f0, f1, f2, f3, f4, f5, f6, f7, f8, f9, f10, f11, f12, f13, f14, f15, f16, f17, f18, f19, f20, f21, f22, f23, f24] 10 = f10 := rfl
  have l7 : look [f0, f1, f2, f3, f4, f5, f6, f7, f8, f9, f10, f11, f12, f13, f14, f15, f16, f17, f18, f19, f20, f21, f22, f23, f24] 13 = f13 := rfl
  have l8 : look [f0, f1, f2, f3, f4, f5, f6, f7, f8, f9, f10, f11, f12, f13, f14, f15, f16, f17, f18, f19, f20, f21, f22, f23, f24] 17 = f17 := rfl
  have l9 : look [f0, f1, f2, f3, f4, f5, f6, f7, f8, f9, f10, f11, f12, f13, f14, f15, f16, f17, f18, f19, f20, f21, f22, f23, f24] 18 = f18 := rfl
  have io3 : f5.io = 0 := rfl
  have io4 : f12.io = 0 := rfl
  have io8 : f17.io = 0 := rfl
  obtain ⟨x, q1⟩ := cell_ok ns (i : Int) (by omega) (by omega)
  obtain ⟨dk0, q0, hd0⟩ := store_ok x
  obtain ⟨k, n, states, dk1, q2, c, _, hd1⟩ := code_ok hd0 (most := 8) (by decide) (by decide)
  obtain ⟨ko, no, so, dk2, q2', co, _, hd2⟩ := code_ok hd1 (most := 8) (by decide) (by decide)
  obtain ⟨dk3, k', n', st', q3, c', hd3⟩ := st3 hd2 c co (.scr (ns.map .int)) (some (.int (i : Int), 0)) s5 s6 s7 s8
  have qt := text5 c
  have qt' := text5 c'
  have qr := read_ok c
  have qs := same_code k n states
  have qi := iscode_ok c
  obtain ⟨p, text, dk4, q7, p0, p1, ht, hl, hd4⟩ := rows_ok hd3 c (most := 10) (by decide) (by decide)
  have q8 := sent_ok c p0 p1 ht (by omega)
  have q9 := lsent_ok c p0 p1 ht (by omega)
  have oe1 : oEq (.str (txA k' n' st')) (.str (txA k n states)) = some (decide (txA k' n' st' = txA k n states)) := rfl
  rw [txt_inj c' c] at oe1
  have oe2 := oEq_cd c' c
  have oe3 : oEq (.str (txA k n states)) (.str (txA k n states)) = some true := by rw [oEq_str]; simp
  have oe4 : oEq (.tup [.str (wireL states p text), .int (endL states p text)]) (.tup [.str (wireL states p text), .int (endL states p text)]) = some true := oEq_refl (k := 1) (by
    show (dLe 0 (.str (wireL states p text)) && (dLe 0 (.int (endL states p text)) && true)) = true
    rw [str_dle fun x hx => by rcases wire_chars c ht p0 p1 x hx with rfl | rfl <;> decide]
    rfl) (by decide)
  have obb := bb (decide (k' = k ∧ n' = n ∧ st' = states))
  refine ⟨some (dk4, 1), some (cdD k n states, 0), some (cdD k' n' st', 0), some (.str (txA k n states), 0), some (cdD k n states, 0), some (.int p, 0), some (ils text, 0), ?_⟩
  generalize decide (k' = k ∧ n' = n ∧ st' = states) = BB at *
  generalize txA k n states = TX at *
  generalize txA k' n' st' = TX' at *
  generalize cdD k n states = CD at *
  generalize cdD k' n' st' = CD' at *
  generalize cdD ko no so = CO at *
  generalize wireL states p text = WW at *
  generalize endL states p text = EE at *
  generalize ils text = TT at *
  generalize ns.map D.int = NS at *
  simp -implicitDefEqProofs [b25_4, b25_2, b25_1, b25_0, r_bind_ok, r_res_some, r_OBt, s_nil, s_one, k_nx, k_ret, k_brk, k_cnt, s_kill, s_frz, s_set, s_unp, k_unp, s_ifs, k_ifT, k_ifF, s_fr, s_ret, s_ex, s_setix, s_brk, s_cnt, s_pass, e_var, k_var, e_frz, k_frz, e_mv, k_mv, e_cst, k_cst, c_int, c_bl, c_non, c_str, e_op, a_nil, a_cons, e_lend, t_lend, k_lend, k_lendT, e_and, e_or, e_not, t_and, t_or, t_not, t_op, t_var, t_call, t_cio, t_cst, k_andTT, k_andTF, k_orTT, k_orTF, k_andOT, k_andOF, k_orOT, k_orOF, k_notO, e_lst, e_tup, e_call, e_cio, k_cio, k_out, e_cit, k_cit, e_comp, e_idx, k_idx, e_mut, k_mutS1, k_mutO, k_setS1, k_setO, e_slc, o_no, i_rng1, k_rng1, i_ex, k_itrL, r_fl, at0, at1, at2, kSet, kUnp, kRet, kEx, kCons, kCons2, kOp, kTest, kAnd, kOr, kNot, kNotT, kLst, kTup, kCall, kCio, kCit, kCit2, kComp2, kIdx, kMut, kSetix, kSetix2, kSlc, kSlc2, kSlc3, kFor, inits, opSem, oCmp, okd, flat, truth, getSlots, upto, bindT, bindTs, wipeE, frzE, retC, freeze1, putSlots, nodupB, oB2, mutL, isOwnL, big, oMk, oCk, full, fullL, lendE_nil, lendE_cons, lendS_none, lendS_some, s_blk, k_blk, k_blkM, mergeE, s_whl, s_inc, k_incO, k_inc2, kInc2, o_so, k_so, ot_so, ot_no, e_callv, t_callv, k_callvS, k_callvL, kCallvR, retN, kChnE, kChnA, kChnB, e_chn, t_chn, k_chnT, k_chnF, kChn3A, kChn3B, kChn3F, e_chn3, t_chn3, k_chn3T, k_chn3F, r_OBr, r_nxE, i_rng3, kR3a, kR3b, kR3c, e_mutp, k_pm3, k_pm2, kPm1, k_pm, s_setp, kSp4, k_sp3, k_sp2, k_sp1, k_sp, pe_k, e_pth, k_pth, k_pth2, bindT, bindTs, isC, l0, l1, l2, l3, l4, l5, l6, l7, l8, l9, io_store, io_cell, io_code, io3, io4, io8, io_same, io_iscode, io_rows, io_lsent, q0, q1, q2, q2', q3, qt, qt', qr, qs, qi, q7, q8, q9, oe1, oe2, oe3, oe4, obb]
theorem law_true : ∀ ns : List Int, ns.length ≤ 63 → f25.F [(.scr (ns.map .int), 0)] = .ok (.bl true) 0 [] := by
  intro ns hns
  obtain ⟨m, hm⟩ : ∃ m : Nat, m = min (max ns.length 3) 12 := ⟨_, rfl⟩
  obtain ⟨env', h, s1, s2, s3, s4, s5, s6, s7, s8, rfl⟩ := floop_st (t := .nm 1) (b := evS (look [f0, f1, f2, f3, f4, f5, f6, f7, f8, f9, f10, f11, f12, f13, f14, f15, f16, f17, f18, f19, f20, f21, f22, f23, f24]) b25_4) (fun env => ∃ s1 s2 s3 s4 s5 s6 s7 s8 : Pv.Slot, env = [some (.scr (ns.map .int), 0), s1, s2, s3, s4, s5, s6, s7, s8])
    (ds := rangeL 0 1 m) (env := [some (.scr (ns.map .int), 0), none, none, none, none, none, none, none, none]) ⟨none, none, none, none, none, none, none, none, rfl⟩ (fun x hx env ⟨s1, s2, s3, s4, s5, s6, s7, s8, e⟩ => by
      subst e
      obtain ⟨i, hi, rfl⟩ := mem_rangeL hx
      obtain ⟨a2, a3, a4, a5, a6, a7, a8, e⟩ := body_ok ns i (by omega) s2 s3 s4 s5 s6 s7 s8
      exact ⟨_, _, rfl, .inl e, _, _, _, _, _, _, _, _, rfl⟩)
  have ol : oB1 .len (.scr (ns.map .int)) = some (.int (ns.length : Nat), 0) := by
    show some (D.int (((ns.map D.int).length : Nat) : Int), 0) = _
    rw [List.length_map]
  have o1 : oB2 .max (.int (ns.length : Nat)) (.int 3) = some (.int ((max ns.length 3 : Nat) : Int), 0) := by
    show some (D.int (if (3 : Int) > (ns.length : Nat) then 3 else (ns.length : Nat)), 0) = _
    congr 3
    split <;> omega
  have o2 : oB2 .min (.int ((max ns.length 3 : Nat) : Int)) (.int 12) = some (.int (m : Nat), 0) := by
    show some (D.int (if (12 : Int) < ((max ns.length 3 : Nat) : Int) then 12 else ((max ns.length 3 : Nat) : Int)), 0) = _
    rw [hm]
    congr 3
    split <;> omega
  have rg : kRng1 (.int ((m : Nat) : Int), 0) = fun env => .ok (rangeL 0 1 m) env := by
    funext env
    show (if -(2 ^ 62) ≤ ((m : Nat) : Int) ∧ ((m : Nat) : Int).toNat ≤ big then Res.ok (rangeL 0 1 ((m : Nat) : Int).toNat) env else .bad) = _
    rw [if_pos ⟨by omega, by rw [Int.toNat_natCast]; show _ ≤ 16777216; omega⟩, Int.toNat_natCast]
  unfold f25
  rw [r_runF rfl]
  generalize ((max ns.length 3 : Nat) : Int) = mx at *
  generalize rangeL 0 1 m = RG at *
  generalize ((m : Nat) : Int) = mi at *
  generalize ((ns.length : Nat) : Int) = nl at *
  simp -implicitDefEqProofs [d25, r_bind_ok, r_res_some, r_OBt, s_nil, s_one, k_nx, k_ret, k_brk, k_cnt, s_kill, s_frz, s_set, s_unp, k_unp, s_ifs, k_ifT, k_ifF, s_fr, s_ret, s_ex, s_setix, s_brk, s_cnt, s_pass, e_var, k_var, e_frz, k_frz, e_mv, k_mv, e_cst, k_cst, c_int, c_bl, c_non, c_str, e_op, a_nil, a_cons, e_lend, t_lend, k_lend, k_lendT, e_and, e_or, e_not, t_and, t_or, t_not, t_op, t_var, t_call, t_cio, t_cst, k_andTT, k_andTF, k_orTT, k_orTF, k_andOT, k_andOF, k_orOT, k_orOF, k_notO, e_lst, e_tup, e_call, e_cio, k_cio, k_out, e_cit, k_cit, e_comp, e_idx, k_idx, e_mut, k_mutS1, k_mutO, k_setS1, k_setO, e_slc, o_no, i_rng1, i_ex, k_itrL, r_fl, at0, at1, at2, oEq_int, oEq_str, kSet, kUnp, kRet, kEx, kCons, kCons2, kOp, kTest, kAnd, kOr, kNot, kNotT, kLst, kTup, kCall, kCio, kCit, kCit2, kComp2, kIdx, kMut, kSetix, kSetix2, kSlc, kSlc2, kSlc3, kFor, inits, opSem, oCmp, setL, okd, flat, truth, getSlots, upto, bindT, bindTs, wipeE, frzE, retC, freeze1, putSlots, nodupB, mutL, isOwnL, big, oMk, oCk, full, fullL, lendE_nil, lendE_cons, lendS_none, lendS_some, s_blk, k_blk, k_blkM, mergeE, s_whl, s_inc, k_incO, k_inc2, kInc2, o_so, k_so, oSlc, ot_so, ot_no, e_callv, t_callv, k_callvS, k_callvL, kCallvR, retN, kChnE, kChnA, kChnB, e_chn, t_chn, k_chnT, k_chnF, kChn3A, kChn3B, kChn3F, e_chn3, t_chn3, k_chn3T, k_chn3F, r_OBr, r_nxE, i_rng3, kR3a, kR3b, kR3c, e_mutp, k_pm3, k_pm2, kPm1, k_pm, s_setp, kSp4, k_sp3, k_sp2, k_sp1, k_sp, pe_k, e_pth, k_pth, k_pth2, ol, o1, o2, rg, h]
section
variable {P : Program} {w : World} {K : PySem.W.Frag} {h base : Heap} {mg : Str → Option Value}
theorem glob (X : K.In h) (G : h.Ns mainGlobals mg) (c : He.SaysD fa fn K) : Glob K mg blt gcs [] := by
  refine ⟨fun x hx => ?_, fun p hp => ?_, fun _ h => (nomatch h)⟩
  · have aux : ∀ (l : List Str) (i : Nat), (∀ j x, l[j]? = some x → fa[i + j]? = some (.free x)) → ∀ x ∈ l, mg x = none := fun l i hl x hx => by
      obtain ⟨j, hj⟩ := List.getElem?_of_mem hx
      exact He.free_ok X G (c.fact (i + j) (hl j x hj))
    exact aux blt 21 (fun j x hj => by
      have h2 : ((fa.drop 21).take blt.length)[j]? = (blt.map He.Fa.free)[j]? := congrArg (·[j]?) (show (fa.drop 21).take blt.length = blt.map He.Fa.free from rfl)
      have hlt := (List.getElem?_eq_some_iff.mp hj).1
      rw [List.getElem?_take_of_lt hlt, List.getElem?_drop, List.getElem?_map, hj] at h2
      exact h2) x hx
  · simp only [gcs, List.mem_cons, List.not_mem_nil, or_false] at hp
    rcases hp with rfl | rfl | rfl | rfl
    · obtain ⟨t, e⟩ := He.int_ok X G (c.fact 32)
      exact ⟨_, e, t, rfl⟩
    · obtain ⟨t, e⟩ := He.int_ok X G (c.fact 33)
      exact ⟨_, e, t, rfl⟩
    · obtain ⟨t, e⟩ := He.int_ok X G (c.fact 34)
      exact ⟨_, e, t, rfl⟩
    · obtain ⟨t, e⟩ := He.str_ok X G (c.fact 35)
      exact ⟨_, e, t, rfl⟩
theorem ents (X : K.In h) (G : h.Ns mainGlobals mg) (c : He.SaysD fa fn K) : EntsAt P w K mg base 25 [("_law_store", 1), ("_law_take", 2), ("_law_word", 2), ("_law_branch", 6), ("_law_code", 2), ("show", 1), ("figure_of", 1), ("is_whole", 3), ("is_pair", 3), ("is_state", 4), ("is_code", 1), ("branch_of", 1), ("read_code", 1), ("_law_rows", 3), ("_law_cell", 2), ("_law_other", 2), ("need_letters", 2), ("sent", 3), ("_law_sent", 3), ("_law_same", 2), ("_law_same", 2), ("_law_same", 2), ("_law_same", 2), ("_law_same", 2), ("_law_same", 2)] [f0, f1, f2, f3, f4, f5, f6, f7, f8, f9, f10, f11, f12, f13, f14, f15, f16, f17, f18, f19, f20, f21, f22, f23, f24] := by
  have gl := glob X G c
  have E0 : EntsAt P w K mg base 0 [] [] := EntsAt.nil
  obtain ⟨fd0, F0⟩ := c.def_ 0
  have E1 : EntsAt P w K mg base 1 [("_law_store", 1)] [f0] := E0.add (c := cx 22 0 d0.N []) (He.glo_ok X G (c.fact 0)) F0 bnd0 rfl rfl rfl rfl (C8.fnScope_by scp0) rfl (by decide) gl rfl chk0
  obtain ⟨fd1, F1⟩ := c.def_ 1
  have E2 : EntsAt P w K mg base 2 [("_law_store", 1), ("_law_take", 2)] [f0, f1] := E1.add (c := cx 23 1 d1.N [("_law_store", 1)]) (He.glo_ok X G (c.fact 1)) F1 bnd1 rfl rfl rfl rfl (C8.fnScope_by scp1) rfl (by decide) gl rfl chk1
  obtain ⟨fd2, F2⟩ := c.def_ 2
  have E3 : EntsAt P w K mg base 3 [("_law_store", 1), ("_law_take", 2), ("_law_word", 2)] [f0, f1, f2] := E2.add (c := cx 24 0 d2.N [("_law_store", 1), ("_law_take", 2)]) (He.glo_ok X G (c.fact 2)) F2 bnd2 rfl rfl rfl rfl (C8.fnScope_by scp2) rfl (by decide) gl rfl chk2
  obtain ⟨fd3, F3⟩ := c.def_ 3
  have E4 : EntsAt P w K mg base 4 [("_law_store", 1), ("_law_take", 2), ("_law_word", 2), ("_law_branch", 6)] [f0, f1, f2, f3] := E3.add (c := cx 25 1 d3.N [("_law_store", 1), ("_law_take", 2), ("_law_word", 2)]) (He.glo_ok X G (c.fact 3)) F3 bnd3 rfl rfl rfl rfl (C8.fnScope_by scp3) rfl (by decide) gl rfl chk3
  obtain ⟨fd4, F4⟩ := c.def_ 4
  have E5 : EntsAt P w K mg base 5 [("_law_store", 1), ("_law_take", 2), ("_law_word", 2), ("_law_branch", 6), ("_law_code", 2)] [f0, f1, f2, f3, f4] := E4.add (c := cx 26 1 d4.N [("_law_store", 1), ("_law_take", 2), ("_law_word", 2), ("_law_branch", 6)]) (He.glo_ok X G (c.fact 4)) F4 bnd4 rfl rfl rfl rfl (C8.fnScope_by scp4) rfl (by decide) gl rfl chk4
  obtain ⟨fd5, F5⟩ := c.def_ 5
  have E6 : EntsAt P w K mg base 6 [("_law_store", 1), ("_law_take", 2), ("_law_word", 2), ("_law_branch", 6), ("_law_code", 2), ("show", 1)] [f0, f1, f2, f3, f4, f5] := E5.add (c := cx 16 0 d5.N [("_law_store", 1), ("_law_take", 2), ("_law_word", 2), ("_law_branch", 6), ("_law_code", 2)]) (He.glo_ok X G (c.fact 5)) F5 bnd5 rfl rfl rfl rfl (C8.fnScope_by scp5) rfl (by decide) gl rfl chk5
  obtain ⟨fd6, F6⟩ := c.def_ 6
  have E7 : EntsAt P w K mg base 7 [("_law_store", 1), ("_law_take", 2), ("_law_word", 2), ("_law_branch", 6), ("_law_code", 2), ("show", 1), ("figure_of", 1)] [f0, f1, f2, f3, f4, f5, f6] := E6.add (c := cx 17 0 d6.N [("_law_store", 1), ("_law_take", 2), ("_law_word", 2), ("_law_branch", 6), ("_law_code", 2), ("show", 1)]) (He.glo_ok X G (c.fact 6)) F6 bnd6 rfl rfl rfl rfl (C8.fnScope_by scp6) rfl (by decide) gl rfl chk6
  obtain ⟨fd7, F7⟩ := c.def_ 7
  have E8 : EntsAt P w K mg base 8 [("_law_store", 1), ("_law_take", 2), ("_law_word", 2), ("_law_branch", 6), ("_law_code", 2), ("show", 1), ("figure_of", 1), ("is_whole", 3)] [f0, f1, f2, f3, f4, f5, f6, f7] := E7.add (c := cx 8 0 d7.N [("_law_store", 1), ("_law_take", 2), ("_law_word", 2), ("_law_branch", 6), ("_law_code", 2), ("show", 1), ("figure_of", 1)]) (He.glo_ok X G (c.fact 7)) F7 bnd7 rfl rfl rfl rfl (C8.fnScope_by scp7) rfl (by decide) gl rfl chk7
  obtain ⟨fd8, F8⟩ := c.def_ 8
  have E9 : EntsAt P w K mg base 9 [("_law_store", 1), ("_law_take", 2), ("_law_word", 2), ("_law_branch", 6), ("_law_code", 2), ("show", 1), ("figure_of", 1), ("is_whole", 3), ("is_pair", 3)] [f0, f1, f2, f3, f4, f5, f6, f7, f8] := E8.add (c := cx 9 0 d8.N [("_law_store", 1), ("_law_take", 2), ("_law_word", 2), ("_law_branch", 6), ("_law_code", 2), ("show", 1), ("figure_of", 1), ("is_whole", 3)]) (He.glo_ok X G (c.fact 8)) F8 bnd8 rfl rfl rfl rfl (C8.fnScope_by scp8) rfl (by decide) gl rfl chk8
  obtain ⟨fd9, F9⟩ := c.def_ 9
  have E10 : EntsAt P w K mg base 10 [("_law_store", 1), ("_law_take", 2), ("_law_word", 2), ("_law_branch", 6), ("_law_code", 2), ("show", 1), ("figure_of", 1), ("is_whole", 3), ("is_pair", 3), ("is_state", 4)] [f0, f1, f2, f3, f4, f5, f6, f7, f8, f9] := E9.add (c := cx 10 0 d9.N [("_law_store", 1), ("_law_take", 2), ("_law_word", 2), ("_law_branch", 6), ("_law_code", 2), ("show", 1), ("figure_of", 1), ("is_whole", 3), ("is_pair", 3)]) (He.glo_ok X G (c.fact 9)) F9 bnd9 rfl rfl rfl rfl (C8.fnScope_by scp9) rfl (by decide) gl rfl chk9
  obtain ⟨fd10, F10⟩ := c.def_ 10
  have E11 : EntsAt P w K mg base 11 [("_law_store", 1), ("_law_take", 2), ("_law_word", 2), ("_law_branch", 6), ("_law_code", 2), ("show", 1), ("figure_of", 1), ("is_whole", 3), ("is_pair", 3), ("is_state", 4), ("is_code", 1)] [f0, f1, f2, f3, f4, f5, f6, f7, f8, f9, f10] := E10.add (c := cx 11 0 d10.N [("_law_store", 1), ("_law_take", 2), ("_law_word", 2), ("_law_branch", 6), ("_law_code", 2), ("show", 1), ("figure_of", 1), ("is_whole", 3), ("is_pair", 3), ("is_state", 4)]) (He.glo_ok X G (c.fact 10)) F10 bnd10 rfl rfl rfl rfl (C8.fnScope_by scp10) rfl (by decide) gl rfl chk10
  obtain ⟨fd11, F11⟩ := c.def_ 11
  have E12 : EntsAt P w K mg base 12 [("_law_store", 1), ("_law_take", 2), ("_law_word", 2), ("_law_branch", 6), ("_law_code", 2), ("show", 1), ("figure_of", 1), ("is_whole", 3), ("is_pair", 3), ("is_state", 4), ("is_code", 1), ("branch_of", 1)] [f0, f1, f2, f3, f4, f5, f6, f7, f8, f9, f10, f11] := E11.add (c := cx 18 0 d11.N [("_law_store", 1), ("_law_take", 2), ("_law_word", 2), ("_law_branch", 6), ("_law_code", 2), ("show", 1), ("figure_of", 1), ("is_whole", 3), ("is_pair", 3), ("is_state", 4), ("is_code", 1)]) (He.glo_ok X G (c.fact 11)) F11 bnd11 rfl rfl rfl rfl (C8.fnScope_by scp11) rfl (by decide) gl rfl chk11
  obtain ⟨fd12, F12⟩ := c.def_ 12
  have E13 : EntsAt P w K mg base 13 [("_law_store", 1), ("_law_take", 2), ("_law_word", 2), ("_law_branch", 6), ("_law_code", 2), ("show", 1), ("figure_of", 1), ("is_whole", 3), ("is_pair", 3), ("is_state", 4), ("is_code", 1), ("branch_of", 1), ("read_code", 1)] [f0, f1, f2, f3, f4, f5, f6, f7, f8, f9, f10, f11, f12] := E12.add (c := cx 19 0 d12.N [("_law_store", 1), ("_law_take", 2), ("_law_word", 2), ("_law_branch", 6), ("_law_code", 2), ("show", 1), ("figure_of", 1), ("is_whole", 3), ("is_pair", 3), ("is_state", 4), ("is_code", 1), ("branch_of", 1)]) (He.glo_ok X G (c.fact 12)) F12 bnd12 rfl rfl rfl rfl (C8.fnScope_by scp12) rfl (by decide) gl rfl chk12
  obtain ⟨fd13, F13⟩ := c.def_ 13
  have E14 : EntsAt P w K mg base 14 [("_law_store", 1), ("_law_take", 2), ("_law_word", 2), ("_law_branch", 6), ("_law_code", 2), ("show", 1), ("figure_of", 1), ("is_whole", 3), ("is_pair", 3), ("is_state", 4), ("is_code", 1), ("branch_of", 1), ("read_code", 1), ("_law_rows", 3)] [f0, f1, f2, f3, f4, f5, f6, f7, f8, f9, f10, f11, f12, f13] := E13.add (c := cx 28 1 d13.N [("_law_store", 1), ("_law_take", 2), ("_law_word", 2), ("_law_branch", 6), ("_law_code", 2), ("show", 1), ("figure_of", 1), ("is_whole", 3), ("is_pair", 3), ("is_state", 4), ("is_code", 1), ("branch_of", 1), ("read_code", 1)]) (He.glo_ok X G (c.fact 13)) F13 bnd13 rfl rfl rfl rfl (C8.fnScope_by scp13) rfl (by decide) gl rfl chk13
  obtain ⟨fd14, F14⟩ := c.def_ 14
  have E15 : EntsAt P w K mg base 15 [("_law_store", 1), ("_law_take", 2), ("_law_word", 2), ("_law_branch", 6), ("_law_code", 2), ("show", 1), ("figure_of", 1), ("is_whole", 3), ("is_pair", 3), ("is_state", 4), ("is_code", 1), ("branch_of", 1), ("read_code", 1), ("_law_rows", 3), ("_law_cell", 2)] [f0, f1, f2, f3, f4, f5, f6, f7, f8, f9, f10, f11, f12, f13, f14] := E14.add (c := cx 21 0 d14.N [("_law_store", 1), ("_law_take", 2), ("_law_word", 2), ("_law_branch", 6), ("_law_code", 2), ("show", 1), ("figure_of", 1), ("is_whole", 3), ("is_pair", 3), ("is_state", 4), ("is_code", 1), ("branch_of", 1), ("read_code", 1), ("_law_rows", 3)]) (He.glo_ok X G (c.fact 14)) F14 bnd14 rfl rfl rfl rfl (C8.fnScope_by scp14) rfl (by decide) gl rfl chk14
  obtain ⟨fd15, F15⟩ := c.def_ 15
  have E16 : EntsAt P w K mg base 16 [("_law_store", 1), ("_law_take", 2), ("_law_word", 2), ("_law_branch", 6), ("_law_code", 2), ("show", 1), ("figure_of", 1), ("is_whole", 3), ("is_pair", 3), ("is_state", 4), ("is_code", 1), ("branch_of", 1), ("read_code", 1), ("_law_rows", 3), ("_law_cell", 2), ("_law_other", 2)] [f0, f1, f2, f3, f4, f5, f6, f7, f8, f9, f10, f11, f12, f13, f14, f15] := E15.add (c := cx 31 1 d15.N [("_law_store", 1), ("_law_take", 2), ("_law_word", 2), ("_law_branch", 6), ("_law_code", 2), ("show", 1), ("figure_of", 1), ("is_whole", 3), ("is_pair", 3), ("is_state", 4), ("is_code", 1), ("branch_of", 1), ("read_code", 1), ("_law_rows", 3), ("_law_cell", 2)]) (He.glo_ok X G (c.fact 15)) F15 bnd15 rfl rfl rfl rfl (C8.fnScope_by scp15) rfl (by decide) gl rfl chk15
  obtain ⟨fd16, F16⟩ := c.def_ 16
  have E17 : EntsAt P w K mg base 17 [("_law_store", 1), ("_law_take", 2), ("_law_word", 2), ("_law_branch", 6), ("_law_code", 2), ("show", 1), ("figure_of", 1), ("is_whole", 3), ("is_pair", 3), ("is_state", 4), ("is_code", 1), ("branch_of", 1), ("read_code", 1), ("_law_rows", 3), ("_law_cell", 2), ("_law_other", 2), ("need_letters", 2)] [f0, f1, f2, f3, f4, f5, f6, f7, f8, f9, f10, f11, f12, f13, f14, f15, f16] := E16.add (c := cx 12 0 d16.N [("_law_store", 1), ("_law_take", 2), ("_law_word", 2), ("_law_branch", 6), ("_law_code", 2), ("show", 1), ("figure_of", 1), ("is_whole", 3), ("is_pair", 3), ("is_state", 4), ("is_code", 1), ("branch_of", 1), ("read_code", 1), ("_law_rows", 3), ("_law_cell", 2), ("_law_other", 2)]) (He.glo_ok X G (c.fact 16)) F16 bnd16 rfl rfl rfl rfl (C8.fnScope_by scp16) rfl (by decide) gl rfl chk16
  obtain ⟨fd17, F17⟩ := c.def_ 17
  have E18 : EntsAt P w K mg base 18 [("_law_store", 1), ("_law_take", 2), ("_law_word", 2), ("_law_branch", 6), ("_law_code", 2), ("show", 1), ("figure_of", 1), ("is_whole", 3), ("is_pair", 3), ("is_state", 4), ("is_code", 1), ("branch_of", 1), ("read_code", 1), ("_law_rows", 3), ("_law_cell", 2), ("_law_other", 2), ("need_letters", 2), ("sent", 3)] [f0, f1, f2, f3, f4, f5, f6, f7, f8, f9, f10, f11, f12, f13, f14, f15, f16, f17] := E17.add (c := cx 13 0 d17.N [("_law_store", 1), ("_law_take", 2), ("_law_word", 2), ("_law_branch", 6), ("_law_code", 2), ("show", 1), ("figure_of", 1), ("is_whole", 3), ("is_pair", 3), ("is_state", 4), ("is_code", 1), ("branch_of", 1), ("read_code", 1), ("_law_rows", 3), ("_law_cell", 2), ("_law_other", 2), ("need_letters", 2)]) (He.glo_ok X G (c.fact 17)) F17 bnd17 rfl rfl rfl rfl (C8.fnScope_by scp17) rfl (by decide) gl rfl chk17
  obtain ⟨fd18, F18⟩ := c.def_ 18
  have E19 : EntsAt P w K mg base 19 [("_law_store", 1), ("_law_take", 2), ("_law_word", 2), ("_law_branch", 6), ("_law_code", 2), ("show", 1), ("figure_of", 1), ("is_whole", 3), ("is_pair", 3), ("is_state", 4), ("is_code", 1), ("branch_of", 1), ("read_code", 1), ("_law_rows", 3), ("_law_cell", 2), ("_law_other", 2), ("need_letters", 2), ("sent", 3), ("_law_sent", 3)] [f0, f1, f2, f3, f4, f5, f6, f7, f8, f9, f10, f11, f12, f13, f14, f15, f16, f17, f18] := E18.add (c := cx 29 0 d18.N [("_law_store", 1), ("_law_take", 2), ("_law_word", 2), ("_law_branch", 6), ("_law_code", 2), ("show", 1), ("figure_of", 1), ("is_whole", 3), ("is_pair", 3), ("is_state", 4), ("is_code", 1), ("branch_of", 1), ("read_code", 1), ("_law_rows", 3), ("_law_cell", 2), ("_law_other", 2), ("need_letters", 2), ("sent", 3)]) (He.glo_ok X G (c.fact 18)) F18 bnd18 rfl rfl rfl rfl (C8.fnScope_by scp18) rfl (by decide) gl rfl chk18
  obtain ⟨fd19, F19⟩ := c.def_ 19
  have E20 : EntsAt P w K mg base 20 [("_law_store", 1), ("_law_take", 2), ("_law_word", 2), ("_law_branch", 6), ("_law_code", 2), ("show", 1), ("figure_of", 1), ("is_whole", 3), ("is_pair", 3), ("is_state", 4), ("is_code", 1), ("branch_of", 1), ("read_code", 1), ("_law_rows", 3), ("_law_cell", 2), ("_law_other", 2), ("need_letters", 2), ("sent", 3), ("_law_sent", 3), ("_law_same", 2)] [f0, f1, f2, f3, f4, f5, f6, f7, f8, f9, f10, f11, f12, f13, f14, f15, f16, f17, f18, f19] := E19.bad (ps := ["found", "due"]) (He.glo_ok X G (c.fact 19)) F19 bnd20 (C8.fnScope_by scp20)
  obtain ⟨fd20, F20⟩ := c.def_ 19
  have E21 : EntsAt P w K mg base 21 [("_law_store", 1), ("_law_take", 2), ("_law_word", 2), ("_law_branch", 6), ("_law_code", 2), ("show", 1), ("figure_of", 1), ("is_whole", 3), ("is_pair", 3), ("is_state", 4), ("is_code", 1), ("branch_of", 1), ("read_code", 1), ("_law_rows", 3), ("_law_cell", 2), ("_law_other", 2), ("need_letters", 2), ("sent", 3), ("_law_sent", 3), ("_law_same", 2), ("_law_same", 2)] [f0, f1, f2, f3, f4, f5, f6, f7, f8, f9, f10, f11, f12, f13, f14, f15, f16, f17, f18, f19, f20] := E20.add (c := cx 30 0 d20.N [("_law_store", 1), ("_law_take", 2), ("_law_word", 2), ("_law_branch", 6), ("_law_code", 2), ("show", 1), ("figure_of", 1), ("is_whole", 3), ("is_pair", 3), ("is_state", 4), ("is_code", 1), ("branch_of", 1), ("read_code", 1), ("_law_rows", 3), ("_law_cell", 2), ("_law_other", 2), ("need_letters", 2), ("sent", 3), ("_law_sent", 3), ("_law_same", 2)]) (He.glo_ok X G (c.fact 19)) F20 bnd20 rfl rfl rfl rfl (C8.fnScope_by scp20) rfl (by decide) gl rfl chk20
  obtain ⟨fd21, F21⟩ := c.def_ 19
  have E22 : EntsAt P w K mg base 22 [("_law_store", 1), ("_law_take", 2), ("_law_word", 2), ("_law_branch", 6), ("_law_code", 2), ("show", 1), ("figure_of", 1), ("is_whole", 3), ("is_pair", 3), ("is_state", 4), ("is_code", 1), ("branch_of", 1), ("read_code", 1), ("_law_rows", 3), ("_law_cell", 2), ("_law_other", 2), ("need_letters", 2), ("sent", 3), ("_law_sent", 3), ("_law_same", 2), ("_law_same", 2), ("_law_same", 2)] [f0, f1, f2, f3, f4, f5, f6, f7, f8, f9, f10, f11, f12, f13, f14, f15, f16, f17, f18, f19, f20, f21] := E21.add (c := cx 30 0 d21.N [("_law_store", 1), ("_law_take", 2), ("_law_word", 2), ("_law_branch", 6), ("_law_code", 2), ("show", 1), ("figure_of", 1), ("is_whole", 3), ("is_pair", 3), ("is_state", 4), ("is_code", 1), ("branch_of", 1), ("read_code", 1), ("_law_rows", 3), ("_law_cell", 2), ("_law_other", 2), ("need_letters", 2), ("sent", 3), ("_law_sent", 3), ("_law_same", 2), ("_law_same", 2)]) (He.glo_ok X G (c.fact 19)) F21 bnd21 rfl rfl rfl rfl (C8.fnScope_by scp21) rfl (by decide) gl rfl chk21
  obtain ⟨fd22, F22⟩ := c.def_ 19
  have E23 : EntsAt P w K mg base 23 [("_law_store", 1), ("_law_take", 2), ("_law_word", 2), ("_law_branch", 6), ("_law_code", 2), ("show", 1), ("figure_of", 1), ("is_whole", 3), ("is_pair", 3), ("is_state", 4), ("is_code", 1), ("branch_of", 1), ("read_code", 1), ("_law_rows", 3), ("_law_cell", 2), ("_law_other", 2), ("need_letters", 2), ("sent", 3), ("_law_sent", 3), ("_law_same", 2), ("_law_same", 2), ("_law_same", 2), ("_law_same", 2)] [f0, f1, f2, f3, f4, f5, f6, f7, f8, f9, f10, f11, f12, f13, f14, f15, f16, f17, f18, f19, f20, f21, f22] := E22.add (c := cx 30 0 d22.N [("_law_store", 1), ("_law_take", 2), ("_law_word", 2), ("_law_branch", 6), ("_law_code", 2), ("show", 1), ("figure_of", 1), ("is_whole", 3), ("is_pair", 3), ("is_state", 4), ("is_code", 1), ("branch_of", 1), ("read_code", 1), ("_law_rows", 3), ("_law_cell", 2), ("_law_other", 2), ("need_letters", 2), ("sent", 3), ("_law_sent", 3), ("_law_same", 2), ("_law_same", 2), ("_law_same", 2)]) (He.glo_ok X G (c.fact 19)) F22 bnd22 rfl rfl rfl rfl (C8.fnScope_by scp22) rfl (by decide) gl rfl chk22
  obtain ⟨fd23, F23⟩ := c.def_ 19
  have E24 : EntsAt P w K mg base 24 [("_law_store", 1), ("_law_take", 2), ("_law_word", 2), ("_law_branch", 6), ("_law_code", 2), ("show", 1), ("figure_of", 1), ("is_whole", 3), ("is_pair", 3), ("is_state", 4), ("is_code", 1), ("branch_of", 1), ("read_code", 1), ("_law_rows", 3), ("_law_cell", 2), ("_law_other", 2), ("need_letters", 2), ("sent", 3), ("_law_sent", 3), ("_law_same", 2), ("_law_same", 2), ("_law_same", 2), ("_law_same", 2), ("_law_same", 2)] [f0, f1, f2, f3, f4, f5, f6, f7, f8, f9, f10, f11, f12, f13, f14, f15, f16, f17, f18, f19, f20, f21, f22, f23] := E23.add (c := cx 30 0 d23.N [("_law_store", 1), ("_law_take", 2), ("_law_word", 2), ("_law_branch", 6), ("_law_code", 2), ("show", 1), ("figure_of", 1), ("is_whole", 3), ("is_pair", 3), ("is_state", 4), ("is_code", 1), ("branch_of", 1), ("read_code", 1), ("_law_rows", 3), ("_law_cell", 2), ("_law_other", 2), ("need_letters", 2), ("sent", 3), ("_law_sent", 3), ("_law_same", 2), ("_law_same", 2), ("_law_same", 2), ("_law_same", 2)]) (He.glo_ok X G (c.fact 19)) F23 bnd23 rfl rfl rfl rfl (C8.fnScope_by scp23) rfl (by decide) gl rfl chk23
  obtain ⟨fd24, F24⟩ := c.def_ 19
  have E25 : EntsAt P w K mg base 25 [("_law_store", 1), ("_law_take", 2), ("_law_word", 2), ("_law_branch", 6), ("_law_code", 2), ("show", 1), ("figure_of", 1), ("is_whole", 3), ("is_pair", 3), ("is_state", 4), ("is_code", 1), ("branch_of", 1), ("read_code", 1), ("_law_rows", 3), ("_law_cell", 2), ("_law_other", 2), ("need_letters", 2), ("sent", 3), ("_law_sent", 3), ("_law_same", 2), ("_law_same", 2), ("_law_same", 2), ("_law_same", 2), ("_law_same", 2), ("_law_same", 2)] [f0, f1, f2, f3, f4, f5, f6, f7, f8, f9, f10, f11, f12, f13, f14, f15, f16, f17, f18, f19, f20, f21, f22, f23, f24] := E24.add (c := cx 30 0 d24.N [("_law_store", 1), ("_law_take", 2), ("_law_word", 2), ("_law_branch", 6), ("_law_code", 2), ("show", 1), ("figure_of", 1), ("is_whole", 3), ("is_pair", 3), ("is_state", 4), ("is_code", 1), ("branch_of", 1), ("read_code", 1), ("_law_rows", 3), ("_law_cell", 2), ("_law_other", 2), ("need_letters", 2), ("sent", 3), ("_law_sent", 3), ("_law_same", 2), ("_law_same", 2), ("_law_same", 2), ("_law_same", 2), ("_law_same", 2)]) (He.glo_ok X G (c.fact 19)) F24 bnd24 rfl rfl rfl rfl (C8.fnScope_by scp24) rfl (by decide) gl rfl chk24
  exact E25
theorem facts (X : K.In h) (G : h.Ns mainGlobals mg) (c : He.SaysD fa fn K) :
    ∃ (fd : FuncData) (sp : Sp), (∀ (s : Shared) (v : Value), BindsTo s fd ⟨[v], []⟩ [("script", v)]) ∧ (∀ (H : Hp) (a : Addr) (ns : List Int), ns.length ≤ 63 → Only H → SqL K H a (ns.map V.int) → sp [.ref a] H (fun v _ => v = .bl true) fun _ _ _ => False) ∧ ∀ base : Heap, K.In base → base.Ns mainGlobals mg → FnOk P w K mg base CX0 26 (He.ga K "law") fd ["script"] sp := by
  obtain ⟨fd, F⟩ := c.def_ 20
  refine ⟨fd, spL K f25 1, fun s v => ?_, fun H a ns hl _ hq => law_sp rfl law_true hl hq, fun base XB GB => ?_⟩
  · obtain ⟨oc, od, dV, kV, doc, pm, an, cdv, ct, osl, rfl, lk, hcd, hD, hK⟩ := F.ex
    rcases hD with ⟨_, rfl⟩ | ⟨e, _⟩
    · exact .of_eq (bnd25 kV doc pm an cdv ct [v] rfl)
    · exact absurd rfl e
  · exact law_ok (ρ := look [f0, f1, f2, f3, f4, f5, f6, f7, f8, f9, f10, f11, f12, f13, f14, f15, f16, f17, f18, f19, f20, f21, f22, f23, f24]) (c := cx 32 0 d25.N [("_law_store", 1), ("_law_take", 2), ("_law_word", 2), ("_law_branch", 6), ("_law_code", 2), ("show", 1), ("figure_of", 1), ("is_whole", 3), ("is_pair", 3), ("is_state", 4), ("is_code", 1), ("branch_of", 1), ("read_code", 1), ("_law_rows", 3), ("_law_cell", 2), ("_law_other", 2), ("need_letters", 2), ("sent", 3), ("_law_sent", 3), ("_law_same", 2), ("_law_same", 2), ("_law_same", 2), ("_law_same", 2), ("_law_same", 2), ("_law_same", 2)]) F rfl rfl rfl rfl (C8.fnScope_by scp25) rfl (by decide) (glob X G c) (ents X G c).at_ chk25
end
end Zk63
open PySem PySem.W PySem.Calls PyProof.Rows
theorem PySem.Challenge.cw_ownbeat_k63_whole_there_and_back_holds : PySem.Challenge.rw_ownbeat_k63_whole_there_and_back.Holds := by
  w_on; o_law
  refine HandSHeadRun.head_any (r := OpenLaw.row PySem.Challenge.rw_ownbeat_k63_whole_there_and_back) (q := view (OpenLaw.row PySem.Challenge.rw_ownbeat_k63_whole_there_and_back).prog [32]) (H := Zk63.hk) (ob := Zk63.ob) (M := 2000) (loose := Zk63.loose) (d := HandSHeadRun.topDef (OpenLaw.row PySem.Challenge.rw_ownbeat_k63_whole_there_and_back).prog 32) (kwd := []) Zk63.ob_eq
    (by kernel_rfl) (fun s => by kernel_rfl) Zk63.run (by kernel_rfl) (by kernel_rfl) (by kernel_rfl) (by rfl) (by first | assumption | decide +kernel) (by decide +kernel) ⟨rfl, rfl, rfl, rfl, rfl, by decide +kernel⟩ ?hw ?hc
  case hw => w_witness2
  case hc =>
    refine L2.walk_ofE (l := PySem.Challenge.rw_ownbeat_k63_whole_there_and_back) (n := 63) (k := 26) (x := "script") (CX := L2.CX0) rfl (by decide) (by kernel_rfl) ⟨rfl, by decide, by decide⟩ ?F (fun _ _ _ _ z => z)
    intro w mg fa h Y G hmg0
    obtain ⟨K, KX, c⟩ := Y
    have hmg : mg ("law" : PySem.Str) = some (.ref fa) := by
      have e : (HandSHeadRun.topDef (OpenLaw.row PySem.Challenge.rw_ownbeat_k63_whole_there_and_back).prog 32).name = ("law" : PySem.Str) := by kernel_rfl
      rw [← e]
      exact hmg0
    have e2 : fa = He.ga K "law" := by
      have e3 := He.glo_ok KX G (x := "law") (c.fact 20)
      rw [hmg] at e3
      exact PySem.Value.ref.inj (Option.some.inj e3)
    obtain ⟨fd, sp, hb, hs, hF⟩ := Zk63.facts (P := (PySem.Challenge.rw_ownbeat_k63_whole_there_and_back).prog) (w := w) KX G c
    rw [e2]
    exact ⟨K, fd, sp, KX, hb, hs, hF⟩
