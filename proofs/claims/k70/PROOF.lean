import PyProof.Rows.All
import Wide.All
import OpenK.AllK
import Wide.FinOn
import HandS.ForMost
import HandS.Exc
import HandS.ExcOwn
import HandS.TryOnly
import HandS.WordsExc
import KE.KeyNested
import PyProof.P3Eq
import PyProof.P3In
import PyProof.NeData
import PyProof.ReprRoads
import HandS.TupAny
import HandS.TupMul
import HandS.Deep
import KE.DataIsa
import HandS.Conv
import KE.LtSeq
import HandS.RaiseMore
import HandS.Flow
import HandS.Zip
import KE.GoesNew
import HandS.RevRange
import HandS.Rev
import HandS.Style
import HandS.CallSlots
import KE.GoesMore
import KE.GoesEnum
import HandS.Text
import HandS.FStr
import HandS.Ends
import HandS.List
import HandS.Dict
import HandS.TupSets
import KE.SortData
import HandS.SetFor
import KE.KRevSl
import KE.KDictList
import HandS.DictComp
import PyProof.FitsInt
import PyProof.StrLaws
import PyProof.StrLawsRepr
import KE.KDictZip
import KE.KItemsList
import HandS.ListItems
import KE.KIntText
import PySem.Challenge.RW_anymaze_k70_judges_judged
set_option Elab.async false
set_option linter.all false
set_option maxRecDepth 100000
set_option autoImplicit false
namespace PD
open PySem PySem.Spec PyProof.Rows L2
structure Mo where
  w : World
  K : PySem.W.Frag
  mg : Str → Option Value
inductive SV where
  | d (x : PyData)
  | obj (r : Nat)
  | scr (ns : List Int)
inductive Ob where
  | lst (xs : List SV)
  | ins (C : Str) (fs : List (Str × SV))
abbrev Store := List Ob
structure Exc where
  cls : Str
  flds : Option (List (Str × SV))
inductive Rs (α : Type) where
  | ok (a : α) (S : Store)
  | exc (x : Exc) (S : Store)
  | bad
def Rs.bind {α β : Type} : Rs α → (α → Store → Rs β) → Rs β
  | .ok a S, f => f a S
  | .exc x S, _ => .exc x S
  | .bad, _ => .bad
abbrev Fr := List (Option SV)
abbrev EM := Fr → Store → Rs SV
abbrev TMt := Fr → Store → Rs Bool
abbrev AM := Fr → Store → Rs (List SV)
mutual
def toKey : PyData → Option NestedKey
  | .none => some .none
  | .int i => some (.num i)
  | .str x => some (.text x)
  | .tuple xs => (toKeys xs).map .tup
  | .bool _ | .list _ | .dict _ => none
def toKeys : List PyData → Option (List NestedKey)
  | [] => some []
  | x :: xs => (toKey x).bind fun k => (toKeys xs).map (k :: ·)
end
def FzL (K : PySem.W.Frag) (F : Addr → Prop) (H : Hp) (a : Addr) (xs : List V) : Prop :=
  (F a ∧ H a = some (.lst xs)) ∨ (∃ o, H a = some (.frz o (.lst xs))) ∨
    ∃ (o : Obj) (its : Array Value) (n : Nat), K.lookup a = some o ∧ o.cls = .type "list" ∧ o.dict = none ∧ o.data = .seq its n ∧ its.size ≤ sizeLine ∧ Vals xs its.toList
theorem FzL.sq {K : PySem.W.Frag} {F : Addr → Prop} {H : Hp} {a : Addr} {xs : List V} (h : FzL K F H a xs) : SqL K H a xs := by
  rcases h with ⟨_, h⟩ | h | h
  · exact .inl (.inl h)
  · exact .inl (.inr h)
  · exact .inr h
def dictObj (w : World) (a : Addr) (es : List (NestedKey × Addr × V)) (h : Heap) : Prop :=
  ∃ o ds ep, h.get? a = some o ∧ o.ExactDict ∧ o.data = .dict ds ep ∧ Paired (fun (p : NestedKey × Addr × V) (e : DictEntry) => e.hash = p.1.hash w ∧ e.key = .ref p.2.1 ∧ RelV p.2.2 e.val) es ds.toList ∧ (es.map (·.1)).Nodup ∧ sysModules ≠ a
def KeysAre (ds : List (PyData × PyData)) (es : List (NestedKey × Addr × V)) : Prop := Paired (fun (p : PyData × PyData) (e : NestedKey × Addr × V) => toKey p.1 = some e.1 ∧ e.1.depth ≤ 8) ds es
mutual
inductive Rp (M : Mo) (F : Addr → Prop) (H : Hp) : PyData → V → Prop
  | non : Rp M F H .none .non
  | bl (b : Bool) : Rp M F H (.bool b) (.bl b)
  | int (i : Int) : Rp M F H (.int i) (.int i)
  | str (x : Str) : Rp M F H (.str x) (.str x)
  | lst {a : Addr} {xs : List V} {ds : List PyData} : F a → H a = some (.lst xs) → RpAll M F H ds xs → Rp M F H (.list ds) (.ref a)
  | tup {a : Addr} {xs : List V} {ds : List PyData} : SqT M.K H a xs → RpAll M F H ds xs → Rp M F H (.tuple ds) (.ref a)
  | dK {a : Addr} {kvs : List (Key × V)} {ds : List (PyData × PyData)} : F a → H a = some (.dK kvs) → RpAll M F H (ds.map (·.1)) (kvs.map fun p => kV p.1) → RpAll M F H (ds.map (·.2)) (kvs.map (·.2)) → Rp M F H (.dict ds) (.ref a)
  | dN {a : Addr} {es : List (NestedKey × Addr × V)} {ds : List (PyData × PyData)} : F a → H a = some (.ext (dictObj M.w a es)) → KeysAre ds es → RpAll M F H (ds.map (·.1)) (es.map fun e => V.ref e.2.1) → RpAll M F H (ds.map (·.2)) (es.map (·.2.2)) → Rp M F H (.dict ds) (.ref a)
inductive RpAll (M : Mo) (F : Addr → Prop) (H : Hp) : List PyData → List V → Prop
  | nil : RpAll M F H [] []
  | cons {d : PyData} {ds : List PyData} {v : V} {vs : List V} : Rp M F H d v → RpAll M F H ds vs → RpAll M F H (d :: ds) (v :: vs)
end
section
variable {M : Mo} {F F' : Addr → Prop} {H H' : Hp}
theorem RpAll.length : ∀ {ds : List PyData} {vs : List V}, RpAll M F H ds vs → ds.length = vs.length
  | _, _, .nil => rfl
  | _, _, .cons _ t => by simp [RpAll.length t]
theorem RpAll.get : ∀ {ds : List PyData} {vs : List V} {i : Nat} {d : PyData}, RpAll M F H ds vs → ds[i]? = some d → ∃ v, vs[i]? = some v ∧ Rp M F H d v
  | _, _, i, _, .nil, e => by simp at e
  | _, _, 0, d, .cons r _, e => by
    simp at e; subst e; exact ⟨_, by simp, r⟩
  | _, _, i + 1, d, .cons _ t, e => by
    obtain ⟨v, h1, h2⟩ := RpAll.get (i := i) t (by simpa using e)
    exact ⟨v, by simpa using h1, h2⟩
theorem RpAll.append : ∀ {ds es : List PyData} {vs us : List V}, RpAll M F H ds vs → RpAll M F H es us → RpAll M F H (ds ++ es) (vs ++ us)
  | _, _, _, _, .nil, q => q
  | _, _, _, _, .cons r t, q => .cons r (RpAll.append t q)
structure Keeps (F F' : Addr → Prop) (H H' : Hp) : Prop where
  sub : ∀ a, F a → F' a
  frozen : ∀ a o, F a → H a = some o → H' a = some o
  tup : ∀ a xs, H a = some (.tup xs) → H' a = some (.tup xs)
  frz : ∀ a o u, H a = some (.frz o u) → H' a = some (.frz o u)
theorem Keeps.sqT (k : Keeps F F' H H') {K : PySem.W.Frag} {a : Addr} {xs : List V} (h : SqT K H a xs) : SqT K H' a xs := by
  rcases h with (h | ⟨o, h⟩) | h
  · exact .inl (.inl (k.tup _ _ h))
  · exact .inl (.inr ⟨o, k.frz _ _ _ h⟩)
  · exact .inr h
theorem Keeps.fzL (k : Keeps F F' H H') {K : PySem.W.Frag} {a : Addr} {xs : List V} (h : FzL K F H a xs) : FzL K F' H' a xs := by
  rcases h with ⟨f, h⟩ | ⟨o, h⟩ | h
  · exact .inl ⟨k.sub _ f, k.frozen _ _ f h⟩
  · exact .inr (.inl ⟨o, k.frz _ _ _ h⟩)
  · exact .inr (.inr h)
mutual
theorem Rp.keep (k : Keeps F F' H H') : ∀ {d : PyData} {v : V}, Rp M F H d v → Rp M F' H' d v
  | _, _, .non => .non
  | _, _, .bl b => .bl b
  | _, _, .int i => .int i
  | _, _, .str x => .str x
  | _, _, .lst f h r => .lst (k.sub _ f) (k.frozen _ _ f h) (RpAll.keep k r)
  | _, _, .tup h r => .tup (k.sqT h) (RpAll.keep k r)
  | _, _, .dK f h r s => .dK (k.sub _ f) (k.frozen _ _ f h) (RpAll.keep k r) (RpAll.keep k s)
  | _, _, .dN f h z r s => .dN (k.sub _ f) (k.frozen _ _ f h) z (RpAll.keep k r) (RpAll.keep k s)
theorem RpAll.keep (k : Keeps F F' H H') : ∀ {ds : List PyData} {vs : List V}, RpAll M F H ds vs → RpAll M F' H' ds vs
  | _, _, .nil => .nil
  | _, _, .cons r t => .cons (Rp.keep k r) (RpAll.keep k t)
end
end
structure Gh where
  F : Addr → Prop
  rho : List Addr
  H0 : Hp
  F0 : Addr → Prop
  rho0 : List Addr
def RpS (M : Mo) (G : Gh) (H : Hp) : SV → V → Prop
  | .d x, v => Rp M G.F H x v
  | .obj r, v => ∃ a, G.rho[r]? = some a ∧ v = .ref a
  | .scr ns, v => ∃ a, v = .ref a ∧ FzL M.K G.F H a (ns.map V.int)
abbrev RpSs (M : Mo) (G : Gh) (H : Hp) : List SV → List V → Prop := Paired (RpS M G H)
def RpF (M : Mo) (G : Gh) (H : Hp) : List (Str × SV) → List (Str × V) → Prop := Paired fun p q => p.1 = q.1 ∧ RpS M G H p.2 q.2
def ObR (M : Mo) (G : Gh) (H : Hp) : Ob → Addr → Prop
  | .lst ds, a => ∃ xs, H a = some (.lst xs) ∧ RpSs M G H ds xs
  | .ins C fs, a => ∃ ca dx vs, M.mg C = some (.ref ca) ∧ H a = some (.ins ca dx vs) ∧ RpF M G H fs vs
def FzOk (M : Mo) (H : Hp) (a : Addr) : Prop := (∃ xs, H a = some (.lst xs)) ∨ (∃ kvs, H a = some (.dK kvs)) ∨ ∃ es, H a = some (.ext (dictObj M.w a es))
structure Base (M : Mo) (H : Hp) (S : Store) (G : Gh) : Prop where
  len : S.length = G.rho.length
  ob : ∀ (r : Nat) (o : Ob) (a : Addr), S[r]? = some o → G.rho[r]? = some a → ObR M G H o a
  nd : G.rho.Nodup
  frz : ∀ a, G.F a → a ∉ G.rho ∧ FzOk M H a
  keep0 : ∀ a o, G.H0 a = some o → a ∉ G.rho0 → H a = some o
  sub0 : ∀ a, G.F0 a → G.F a
  newF : ∀ a, G.F a → G.F0 a ∨ G.H0 a = none
  pre : ∃ more, G.rho = G.rho0 ++ more
  newR : ∀ a, a ∈ G.rho → a ∈ G.rho0 ∨ G.H0 a = none
structure Stp (G : Gh) (H : Hp) (G' : Gh) (H' : Hp) : Prop where
  h0 : G'.H0 = G.H0
  f0 : G'.F0 = G.F0
  r0 : G'.rho0 = G.rho0
  sub : ∀ a, G.F a → G'.F a
  newF : ∀ a, G'.F a → G.F a ∨ H a = none
  pre : ∃ more, G'.rho = G.rho ++ more
  newR : ∀ a, a ∈ G'.rho → a ∈ G.rho ∨ H a = none
  keep : ∀ a o, H a = some o → a ∉ G.rho → H' a = some o
  there : ∀ a, H' a = none → H a = none
theorem Stp.refl {G : Gh} {H : Hp} : Stp G H G H := ⟨rfl, rfl, rfl, fun _ h => h, fun _ h => .inl h, ⟨[], by simp⟩, fun _ h => .inl h, fun _ _ h _ => h, fun _ h => h⟩
theorem Stp.trans {G G1 G2 : Gh} {H H1 H2 : Hp} (a : Stp G H G1 H1) (b : Stp G1 H1 G2 H2) : Stp G H G2 H2 where
  h0 := b.h0.trans a.h0
  f0 := b.f0.trans a.f0
  r0 := b.r0.trans a.r0
  sub := fun x h => b.sub x (a.sub x h)
  newF := fun x h => (b.newF x h).elim (fun q => a.newF x q) fun q => .inr (a.there x q)
  pre := by
    obtain ⟨m1, e1⟩ := a.pre
    obtain ⟨m2, e2⟩ := b.pre
    exact ⟨m1 ++ m2, by rw [e2, e1, List.append_assoc]⟩
  newR := fun x h => (b.newR x h).elim (fun q => a.newR x q) fun q => .inr (a.there x q)
  keep := fun x o h n => b.keep x o (a.keep x o h n) fun hm => (a.newR x hm).elim (fun q => n q) fun q => by rw [q] at h; cases h
  there := fun x h => a.there x (b.there x h)
section
variable {M : Mo} {G G' : Gh} {H H' : Hp} {S S' : Store}
theorem Base.rho_get (B : Base M H S G) {a : Addr} (h : a ∈ G.rho) : ∃ o, ObR M G H o a := by
  obtain ⟨r, hr, e⟩ := List.mem_iff_getElem.mp h
  have hs : r < S.length := by rw [B.len]; exact hr
  exact ⟨S[r], B.ob r S[r] a (List.getElem?_eq_getElem hs) (by rw [List.getElem?_eq_getElem hr, e])⟩
theorem ObR.some {o : Ob} {a : Addr} (h : ObR M G H o a) : (∃ xs, H a = some (.lst xs)) ∨ ∃ ca dx vs, H a = some (.ins ca dx vs) := by
  cases o with
  | lst ds => obtain ⟨xs, e, _⟩ := h; exact .inl ⟨xs, e⟩
  | ins C fs => obtain ⟨ca, dx, vs, _, e, _⟩ := h; exact .inr ⟨ca, dx, vs, e⟩
theorem Base.no_tup (B : Base M H S G) {a : Addr} {xs : List V} (h : H a = some (.tup xs)) : a ∉ G.rho := fun hm => by
  obtain ⟨o, q⟩ := B.rho_get hm
  rcases q.some with ⟨ys, e⟩ | ⟨_, _, _, e⟩ <;> (rw [e] at h; cases h)
theorem Base.no_frz (B : Base M H S G) {a : Addr} {o : Obj} {u : HO} (h : H a = some (.frz o u)) : a ∉ G.rho := fun hm => by
  obtain ⟨o, q⟩ := B.rho_get hm
  rcases q.some with ⟨ys, e⟩ | ⟨_, _, _, e⟩ <;> (rw [e] at h; cases h)
theorem Base.keeps (B : Base M H S G) (st : Stp G H G' H') : Keeps G.F G'.F H H' where
  sub := st.sub
  frozen := fun a o f h => st.keep a o h (B.frz a f).1
  tup := fun a xs h => st.keep a _ h (B.no_tup h)
  frz := fun a o u h => st.keep a _ h (B.no_frz h)
theorem RpS.keep (k : Keeps G.F G'.F H H') (p : ∃ more, G'.rho = G.rho ++ more) : ∀ {x : SV} {v : V}, RpS M G H x v → RpS M G' H' x v
  | .d x, _, h => Rp.keep k h
  | .obj r, _, ⟨a, e, q⟩ => by
    obtain ⟨more, hm⟩ := p
    refine ⟨a, ?_, q⟩
    rw [hm, List.getElem?_append_left (List.getElem?_eq_some_iff.mp e).1]
    exact e
  | .scr ns, _, ⟨a, e, q⟩ => ⟨a, e, k.fzL q⟩
theorem RpSs.keep (k : Keeps G.F G'.F H H') (p : ∃ more, G'.rho = G.rho ++ more) {xs : List SV} {vs : List V} (h : RpSs M G H xs vs) : RpSs M G' H' xs vs := Paired.mapP h fun _ _ q => RpS.keep k p q
theorem RpF.keep (k : Keeps G.F G'.F H H') (p : ∃ more, G'.rho = G.rho ++ more) {xs : List (Str × SV)} {vs : List (Str × V)} (h : RpF M G H xs vs) : RpF M G' H' xs vs := Paired.mapP h fun _ _ q => ⟨q.1, RpS.keep k p q.2⟩
theorem Base.rps (B : Base M H S G) (st : Stp G H G' H') {x : SV} {v : V} (h : RpS M G H x v) : RpS M G' H' x v := RpS.keep (B.keeps st) st.pre h
theorem Base.rpss (B : Base M H S G) (st : Stp G H G' H') {x : List SV} {v : List V} (h : RpSs M G H x v) : RpSs M G' H' x v := RpSs.keep (B.keeps st) st.pre h
end
def Cont (M : Mo) (F : Addr → Prop) (H : Hp) (a : Addr) (v : SV) : Prop :=
  (∃ ds xs, v = .d (.list ds) ∧ H a = some (.lst xs) ∧ RpAll M F H ds xs) ∨
  (∃ ds kvs, v = .d (.dict ds) ∧ H a = some (.dK kvs) ∧ RpAll M F H (ds.map (·.1)) (kvs.map fun p => kV p.1) ∧ RpAll M F H (ds.map (·.2)) (kvs.map (·.2))) ∨
  (∃ ds es, v = .d (.dict ds) ∧ H a = some (.ext (dictObj M.w a es)) ∧ KeysAre ds es ∧ RpAll M F H (ds.map (·.1)) (es.map fun e => V.ref e.2.1) ∧ RpAll M F H (ds.map (·.2)) (es.map (·.2.2)))
def OwnR (M : Mo) (G : Gh) (H : Hp) (v : SV) (u : V) : Prop := ∃ a, u = .ref a ∧ ¬ G.F a ∧ a ∉ G.rho ∧ G.H0 a = none ∧ Cont M G.F H a v
abbrev Own := List Bool
def Own.has (O : Own) (i : Nat) : Prop := O[i]? = some true
instance (O : Own) (i : Nat) : Decidable (O.has i) := inferInstanceAs (Decidable (O[i]? = some true))
structure Rel (M : Mo) (O : Own) (σ : L2.St) (H : Hp) (fr : Fr) (S : Store) (G : Gh) : Prop where
  base : Base M H S G
  len : fr.length = σ.length
  slot : ∀ (i : Nat) (v : SV), fr[i]? = some (some v) → ∃ u, σ[i]? = some (some u) ∧ (O.has i → OwnR M G H v u) ∧ (¬ O.has i → RpS M G H v u)
  own : ∀ (i j : Nat) (v w : SV) (a : Addr), O.has i → O.has j → fr[i]? = some (some v) → fr[j]? = some (some w) → σ[i]? = some (some (V.ref a)) → σ[j]? = some (some (V.ref a)) → i = j
section
variable {M : Mo} {G G' : Gh} {H H' : Hp} {S S' : Store} {O : Own} {σ : L2.St} {fr : Fr}
theorem Cont.there {F : Addr → Prop} {a : Addr} {v : SV} (h : Cont M F H a v) : ∃ o, H a = some o ∧ FzOk M H a := by
  rcases h with ⟨_, _, _, q, _⟩ | ⟨_, _, _, q, _⟩ | ⟨_, _, _, q, _⟩
  · exact ⟨_, q, .inl ⟨_, q⟩⟩
  · exact ⟨_, q, .inr (.inl ⟨_, q⟩)⟩
  · exact ⟨_, q, .inr (.inr ⟨_, q⟩)⟩
theorem Cont.keep {F F' : Addr → Prop} {a : Addr} {v : SV} (k : Keeps F F' H H') (ha : ∀ o, H a = some o → H' a = some o) (h : Cont M F H a v) : Cont M F' H' a v := by
  rcases h with ⟨ds, xs, e1, q, r⟩ | ⟨ds, kvs, e1, q, r, r'⟩ | ⟨ds, es, e1, q, z, r, r'⟩
  · exact .inl ⟨ds, xs, e1, ha _ q, RpAll.keep k r⟩
  · exact .inr (.inl ⟨ds, kvs, e1, ha _ q, RpAll.keep k r, RpAll.keep k r'⟩)
  · exact .inr (.inr ⟨ds, es, e1, ha _ q, z, RpAll.keep k r, RpAll.keep k r'⟩)
theorem Cont.rp {F : Addr → Prop} {a : Addr} {x : PyData} (f : F a) (h : Cont M F H a (.d x)) : Rp M F H x (.ref a) := by
  rcases h with ⟨ds, xs, e1, q, r⟩ | ⟨ds, kvs, e1, q, r, r'⟩ | ⟨ds, es, e1, q, z, r, r'⟩
  · cases e1; exact .lst f q r
  · cases e1; exact .dK f q r r'
  · cases e1; exact .dN f q z r r'
theorem Cont.data {F : Addr → Prop} {a : Addr} {v : SV} (h : Cont M F H a v) : ∃ x, v = .d x := by
  rcases h with ⟨_, _, e, _⟩ | ⟨_, _, e, _⟩ | ⟨_, _, e, _⟩ <;> exact ⟨_, e⟩
theorem OwnR.step {v : SV} {u : V} (B : Base M H S G) (st : Stp G H G' H') (h : OwnR M G H v u) : OwnR M G' H' v u := by
  obtain ⟨a, e, nf, nr, h0, q⟩ := h
  obtain ⟨o, ho, _⟩ := Cont.there q
  have hne : H a ≠ none := fun z => by rw [z] at ho; cases ho
  exact ⟨a, e, fun f => (st.newF a f).elim nf hne, fun f => (st.newR a f).elim nr hne, (by rw [st.h0]; exact h0), Cont.keep (B.keeps st) (fun o e => st.keep _ _ e nr) q⟩
theorem Rel.step (R : Rel M O σ H fr S G) (st : Stp G H G' H') (B : Base M H' S' G') : Rel M O σ H' fr S' G' where
  base := B
  len := R.len
  slot := fun i v e => by
    obtain ⟨u, h1, h2, h3⟩ := R.slot i v e
    exact ⟨u, h1, fun o => OwnR.step R.base st (h2 o), fun o => R.base.rps st (h3 o)⟩
  own := R.own
theorem Base.newFz (B : Base M H S G) {p : Addr} {o : HO} (hp : H p = none) (ok : FzOk M (upd H p o) p) :
    Base M (upd H p o) S { G with F := fun a => G.F a ∨ a = p } ∧ Stp G H { G with F := fun a => G.F a ∨ a = p } (upd H p o) := by
  have same : ∀ a u, H a = some u → upd H p o a = some u := fun a u h => by rw [upd_ne (ne_of_none h hp)]; exact h
  have st : Stp G H { G with F := fun a => G.F a ∨ a = p } (upd H p o) := by
    refine ⟨rfl, rfl, rfl, fun _ h => .inl h, fun a h => h.elim .inl fun e => .inr (by rw [e]; exact hp), ⟨[], by simp⟩, fun _ h => .inl h, fun a u h _ => same a u h, fun a h => ?_⟩
    by_cases e : a = p
    · rw [e]; exact hp
    · rw [upd_ne e] at h; exact h
  have k := B.keeps st
  have h0 : G.H0 p = none ∨ p ∈ G.rho0 := by
    cases q : G.H0 p with
    | none => exact .inl rfl
    | some u =>
      by_cases m : p ∈ G.rho0
      · exact .inr m
      · have := B.keep0 p u q m
        rw [hp] at this; cases this
  have pr : p ∉ G.rho := fun m => by
    obtain ⟨x, q⟩ := B.rho_get m
    rcases q.some with ⟨ys, e⟩ | ⟨_, _, _, e⟩ <;> (rw [hp] at e; cases e)
  have pr0 : p ∉ G.rho0 := fun m => pr (by obtain ⟨more, e⟩ := B.pre; rw [e]; exact List.mem_append_left _ m)
  refine ⟨⟨B.len, fun r x a h1 h2 => ?_, B.nd, fun a h => ?_, fun a u h m => same a u (B.keep0 a u h m), fun a h => .inl (B.sub0 a h), fun a h => h.elim (B.newF a) fun e => .inr ?_, B.pre, B.newR⟩, st⟩
  · have q := B.ob r x a h1 h2
    cases x with
    | lst ds =>
      obtain ⟨xs, e, r⟩ := q
      exact ⟨xs, same _ _ e, RpSs.keep k st.pre r⟩
    | ins C fs =>
      obtain ⟨ca, dx, vs, e1, e2, r⟩ := q
      exact ⟨ca, dx, vs, e1, same _ _ e2, RpF.keep k st.pre r⟩
  · rcases h with h | e
    · obtain ⟨n, q⟩ := B.frz a h
      refine ⟨n, ?_⟩
      rcases q with ⟨_, q⟩ | ⟨_, q⟩ | ⟨_, q⟩
      · exact .inl ⟨_, same _ _ q⟩
      · exact .inr (.inl ⟨_, same _ _ q⟩)
      · exact .inr (.inr ⟨_, same _ _ q⟩)
    · subst e
      exact ⟨pr, ok⟩
  · rw [e]
    rcases h0 with h | h
    · exact h
    · exact absurd h pr0
theorem Base.newT (B : Base M H S G) {p : Addr} {o : HO} (hp : H p = none) : Base M (upd H p o) S G ∧ Stp G H G (upd H p o) := by
  have same : ∀ a u, H a = some u → upd H p o a = some u := fun a u h => by rw [upd_ne (ne_of_none h hp)]; exact h
  have st : Stp G H G (upd H p o) := by
    refine ⟨rfl, rfl, rfl, fun _ h => h, fun a h => .inl h, ⟨[], by simp⟩, fun _ h => .inl h, fun a u h _ => same a u h, fun a h => ?_⟩
    by_cases e : a = p
    · rw [e]; exact hp
    · rw [upd_ne e] at h; exact h
  have k := B.keeps st
  refine ⟨⟨B.len, fun r x a h1 h2 => ?_, B.nd, fun a h => ?_, fun a u h m => same a u (B.keep0 a u h m), B.sub0, B.newF, B.pre, B.newR⟩, st⟩
  · have q := B.ob r x a h1 h2
    cases x with
    | lst ds =>
      obtain ⟨xs, e, r⟩ := q
      exact ⟨xs, same _ _ e, RpSs.keep k st.pre r⟩
    | ins C fs =>
      obtain ⟨ca, dx, vs, e1, e2, r⟩ := q
      exact ⟨ca, dx, vs, e1, same _ _ e2, RpF.keep k st.pre r⟩
  · obtain ⟨n, q⟩ := B.frz a h
    refine ⟨n, ?_⟩
    rcases q with ⟨_, q⟩ | ⟨_, q⟩ | ⟨_, q⟩
    · exact .inl ⟨_, same _ _ q⟩
    · exact .inr (.inl ⟨_, same _ _ q⟩)
    · exact .inr (.inr ⟨_, same _ _ q⟩)
theorem Rel.newL (R : Rel M O σ H fr S G) {p : Addr} {xs : List V} {ds : List PyData} (hp : H p = none) (r : RpAll M G.F H ds xs) :
    ∃ G', Rel M O σ (upd H p (.lst xs)) fr S G' ∧ Stp G H G' (upd H p (.lst xs)) ∧ RpS M G' (upd H p (.lst xs)) (.d (.list ds)) (.ref p) := by
  obtain ⟨B, st⟩ := R.base.newFz (o := .lst xs) hp (.inl ⟨xs, upd_same⟩)
  exact ⟨_, R.step st B, st, .lst (.inr rfl) upd_same (RpAll.keep (R.base.keeps st) r)⟩
theorem Rel.newT (R : Rel M O σ H fr S G) {p : Addr} {xs : List V} {ds : List PyData} (hp : H p = none) (r : RpAll M G.F H ds xs) :
    Rel M O σ (upd H p (.tup xs)) fr S G ∧ Stp G H G (upd H p (.tup xs)) ∧ RpS M G (upd H p (.tup xs)) (.d (.tuple ds)) (.ref p) := by
  obtain ⟨B, st⟩ := R.base.newT (o := .tup xs) hp
  exact ⟨R.step st B, st, .tup (.inl (.inl upd_same)) (RpAll.keep (R.base.keeps st) r)⟩
structure Adv (G : Gh) (H : Hp) (G' : Gh) (H' : Hp) : Prop where
  h0 : G'.H0 = G.H0
  f0 : G'.F0 = G.F0
  r0 : G'.rho0 = G.rho0
  keeps : Keeps G.F G'.F H H'
  pre : ∃ more, G'.rho = G.rho ++ more
theorem Keeps.refl {F : Addr → Prop} : Keeps F F H H := ⟨fun _ h => h, fun _ _ _ h => h, fun _ _ h => h, fun _ _ _ h => h⟩
theorem Keeps.trans {F F1 F2 : Addr → Prop} {H1 H2 : Hp} (a : Keeps F F1 H H1) (b : Keeps F1 F2 H1 H2) : Keeps F F2 H H2 :=
  ⟨fun x h => b.sub x (a.sub x h), fun x o f h => b.frozen x o (a.sub x f) (a.frozen x o f h), fun x o h => b.tup x o (a.tup x o h), fun x o u h => b.frz x o u (a.frz x o u h)⟩
theorem Adv.refl : Adv G H G H := ⟨rfl, rfl, rfl, Keeps.refl, ⟨[], by simp⟩⟩
theorem Adv.trans {G2 : Gh} {H2 : Hp} (a : Adv G H G' H') (b : Adv G' H' G2 H2) : Adv G H G2 H2 where
  h0 := b.h0.trans a.h0
  f0 := b.f0.trans a.f0
  r0 := b.r0.trans a.r0
  keeps := a.keeps.trans b.keeps
  pre := by
    obtain ⟨m1, e1⟩ := a.pre
    obtain ⟨m2, e2⟩ := b.pre
    exact ⟨m1 ++ m2, by rw [e2, e1, List.append_assoc]⟩
theorem Base.adv (B : Base M H S G) (st : Stp G H G' H') : Adv G H G' H' := ⟨st.h0, st.f0, st.r0, B.keeps st, st.pre⟩
theorem Adv.rps (a : Adv G H G' H') {x : SV} {v : V} (h : RpS M G H x v) : RpS M G' H' x v := RpS.keep a.keeps a.pre h
theorem Rel.freeze (R : Rel M O σ H fr S G) (O' : Own) (sub : ∀ i, O'.has i → O.has i) : ∃ G', Rel M O' σ H fr S G' ∧ Adv G H G' H := by
  let F' : Addr → Prop := fun a => G.F a ∨ ∃ i v, O.has i ∧ ¬ O'.has i ∧ fr[i]? = some (some v) ∧ σ[i]? = some (some (V.ref a))
  have k : Keeps G.F F' H H := ⟨fun a h => .inl h, fun _ _ _ h => h, fun _ _ h => h, fun _ _ _ h => h⟩
  have at_ : ∀ i v a, O.has i → fr[i]? = some (some v) → σ[i]? = some (some (V.ref a)) → ¬ G.F a ∧ a ∉ G.rho ∧ G.H0 a = none ∧ Cont M G.F H a v := fun i v a o e1 e2 => by
    obtain ⟨u, h1, h2, _⟩ := R.slot i v e1
    obtain ⟨b, e, q⟩ := h2 o
    rw [h1] at e2
    have : u = .ref a := by simpa using e2
    rw [e] at this
    cases this
    exact q
  have B : Base M H S { G with F := F' } := by
    refine ⟨R.base.len, fun r o a h1 h2 => ?_, R.base.nd, fun a h => ?_, R.base.keep0, fun a h => .inl (R.base.sub0 a h), fun a h => ?_, R.base.pre, R.base.newR⟩
    · have q := R.base.ob r o a h1 h2
      cases o with
      | lst ds =>
        obtain ⟨xs, e, r⟩ := q
        exact ⟨xs, e, RpSs.keep (G' := { G with F := F' }) k ⟨[], by simp⟩ r⟩
      | ins C fs =>
        obtain ⟨ca, dx, vs, e1, e2, r⟩ := q
        exact ⟨ca, dx, vs, e1, e2, RpF.keep (G' := { G with F := F' }) k ⟨[], by simp⟩ r⟩
    · rcases h with h | ⟨i, v, o, _, e1, e2⟩
      · exact R.base.frz a h
      · obtain ⟨_, nr, _, c⟩ := at_ i v a o e1 e2
        obtain ⟨_, _, z⟩ := Cont.there c
        exact ⟨nr, z⟩
    · rcases h with h | ⟨i, v, o, _, e1, e2⟩
      · exact R.base.newF a h
      · exact .inr (at_ i v a o e1 e2).2.2.1
  refine ⟨{ G with F := F' }, ⟨B, R.len, fun i v e => ?_, fun i j v w a oi oj => R.own i j v w a (sub i oi) (sub j oj)⟩, ⟨rfl, rfl, rfl, k, ⟨[], by simp⟩⟩⟩
  obtain ⟨u, h1, h2, h3⟩ := R.slot i v e
  refine ⟨u, h1, fun o => ?_, fun o => ?_⟩
  · obtain ⟨a, e1, nf, nr, h0, c⟩ := h2 (sub i o)
    refine ⟨a, e1, fun f => ?_, nr, h0, Cont.keep k (fun _ e => e) c⟩
    rcases f with f | ⟨j, w, oj, noj, f1, f2⟩
    · exact nf f
    · subst e1
      exact noj (by rw [← R.own i j v w a (sub i o) oj e f1 h1 f2]; exact o)
  · by_cases oi : O.has i
    · obtain ⟨a, e1, nf, nr, h0, c⟩ := h2 oi
      subst e1
      obtain ⟨x, rfl⟩ := Cont.data c
      exact Cont.rp (F := F') (.inr ⟨i, _, oi, o, e, h1⟩) (Cont.keep k (fun _ e => e) c)
    · exact RpS.keep (G' := { G with F := F' }) k ⟨[], by simp⟩ (h3 oi)
theorem Rel.ownWrite (R : Rel M O σ H fr S G) {i : Nat} {v v' : SV} {a : Addr} {o : HO} (ho : O.has i) (e : fr[i]? = some (some v)) (hs : σ[i]? = some (some (V.ref a))) (new : Cont M G.F (upd H a o) a v') :
    Rel M O σ (upd H a o) (fr.set i (some v')) S G ∧ Adv G H G (upd H a o) := by
  obtain ⟨nf, nr, h0, c⟩ : ¬ G.F a ∧ a ∉ G.rho ∧ G.H0 a = none ∧ Cont M G.F H a v := by
    obtain ⟨u, h1, h2, _⟩ := R.slot i v e
    obtain ⟨b, e, q⟩ := h2 ho
    rw [h1] at hs
    have : u = .ref a := by simpa using hs
    rw [e] at this
    cases this
    exact q
  obtain ⟨oa, hoa, fz⟩ := Cont.there c
  have nt : ∀ b, (∃ xs, H b = some (.tup xs)) → b ≠ a := fun b ⟨xs, h⟩ z => by
    subst z
    rcases fz with ⟨_, q⟩ | ⟨_, q⟩ | ⟨_, q⟩ <;> (rw [h] at q; cases q)
  have nz : ∀ b, (∃ o u, H b = some (.frz o u)) → b ≠ a := fun b ⟨_, _, h⟩ z => by
    subst z
    rcases fz with ⟨_, q⟩ | ⟨_, q⟩ | ⟨_, q⟩ <;> (rw [h] at q; cases q)
  have k : Keeps G.F G.F H (upd H a o) := ⟨fun _ h => h, fun b u f h => by rw [upd_ne (show b ≠ a from fun z => nf (by rw [← z]; exact f))]; exact h, fun b xs h => by rw [upd_ne (nt b ⟨xs, h⟩)]; exact h, fun b x u h => by rw [upd_ne (nz b ⟨x, u, h⟩)]; exact h⟩
  have nrho : ∀ b, b ∈ G.rho → b ≠ a := fun b m z => nr (by rw [← z]; exact m)
  have B : Base M (upd H a o) S G := by
    refine ⟨R.base.len, fun r x b h1 h2 => ?_, R.base.nd, fun b h => ?_, fun b u h m => ?_, R.base.sub0, R.base.newF, R.base.pre, R.base.newR⟩
    · have q := R.base.ob r x b h1 h2
      have nb := nrho b (List.mem_of_getElem? h2)
      cases x with
      | lst ds =>
        obtain ⟨xs, e, r⟩ := q
        exact ⟨xs, by rw [upd_ne nb]; exact e, RpSs.keep k ⟨[], by simp⟩ r⟩
      | ins C fs =>
        obtain ⟨ca, dx, vs, e1, e2, r⟩ := q
        exact ⟨ca, dx, vs, e1, by rw [upd_ne nb]; exact e2, RpF.keep k ⟨[], by simp⟩ r⟩
    · obtain ⟨n, q⟩ := R.base.frz b h
      have nb : b ≠ a := fun z => nf (by rw [← z]; exact h)
      refine ⟨n, ?_⟩
      unfold FzOk at q ⊢
      rw [upd_ne nb]
      exact q
    · have nb : b ≠ a := fun z => by rw [z, h0] at h; cases h
      rw [upd_ne nb]
      exact R.base.keep0 b u h m
  have hi : i < fr.length := (List.getElem?_eq_some_iff.mp e).1
  refine ⟨⟨B, by rw [List.length_set]; exact R.len, fun j w f => ?_, fun j l w x b oj ol f1 f2 => ?_⟩, ⟨rfl, rfl, rfl, k, ⟨[], by simp⟩⟩⟩
  · by_cases hj : i = j
    · subst hj
      rw [List.getElem?_set_self hi] at f
      have : v' = w := by simpa using f
      subst this
      refine ⟨.ref a, hs, fun _ => ⟨a, rfl, nf, nr, h0, new⟩, fun n => absurd ho n⟩
    · rw [List.getElem?_set_ne hj] at f
      obtain ⟨u, h1, h2, h3⟩ := R.slot j w f
      refine ⟨u, h1, fun oj => ?_, fun oj => RpS.keep k ⟨[], by simp⟩ (h3 oj)⟩
      obtain ⟨b, e1, nfb, nrb, h0b, cb⟩ := h2 oj
      have nb : b ≠ a := fun z => by
        subst z
        subst e1
        exact hj (R.own i j v w b ho oj e f hs h1)
      exact ⟨b, e1, nfb, nrb, h0b, Cont.keep k (fun _ q => by rw [upd_ne nb]; exact q) cb⟩
  · have back : ∀ {m : Nat} {y : SV}, (fr.set i (some v'))[m]? = some (some y) → ∃ z, fr[m]? = some (some z) := fun {m y} f => by
      by_cases hm : i = m
      · subst hm; exact ⟨v, e⟩
      · rw [List.getElem?_set_ne hm] at f; exact ⟨y, f⟩
    obtain ⟨z1, g1⟩ := back f1
    obtain ⟨z2, g2⟩ := back f2
    exact R.own j l z1 z2 b oj ol g1 g2
theorem Rel.store (R : Rel M O σ H fr S G) {i : Nat} {v : SV} {u : V} (hi : i < σ.length) (r : RpS M G H v u) : Rel M (O.set i false) (σ.set i (some u)) H (fr.set i (some v)) S G := by
  have hfi : i < fr.length := by rw [R.len]; exact hi
  have oset : ∀ j, Own.has (O.set i false) j → j ≠ i ∧ O.has j := fun j h => by
    unfold Own.has at h ⊢
    by_cases e : i = j
    · subst e
      by_cases hl : i < O.length
      · rw [List.getElem?_set_self hl] at h; cases h
      · rw [List.getElem?_eq_none (by simpa using hl)] at h; cases h
    · rw [List.getElem?_set_ne e] at h
      exact ⟨fun z => e z.symm, h⟩
  refine ⟨R.base, by simp [R.len], fun j w f => ?_, fun j l w x a oj ol f1 f2 g1 g2 => ?_⟩
  · by_cases hj : i = j
    · subst hj
      rw [List.getElem?_set_self hfi] at f
      have : v = w := by simpa using f
      subst this
      exact ⟨u, List.getElem?_set_self hi, fun o => absurd rfl (oset i o).1, fun _ => r⟩
    · rw [List.getElem?_set_ne hj] at f
      obtain ⟨y, h1, h2, h3⟩ := R.slot j w f
      refine ⟨y, by rw [List.getElem?_set_ne hj]; exact h1, fun o => h2 (oset j o).2, fun o => h3 fun z => o ?_⟩
      show (O.set i false)[j]? = some true
      rw [List.getElem?_set_ne hj]
      exact z
  · obtain ⟨n1, o1⟩ := oset j oj
    obtain ⟨n2, o2⟩ := oset l ol
    rw [List.getElem?_set_ne (Ne.symm n1)] at f1 g1
    rw [List.getElem?_set_ne (Ne.symm n2)] at f2 g2
    exact R.own j l w x a o1 o2 f1 f2 g1 g2
theorem Rel.storeOwn (R : Rel M O σ H fr S G) {i : Nat} {v : SV} {a : Addr} (hi : i < σ.length) (hiO : i < O.length) (nf : ¬ G.F a) (nr : a ∉ G.rho) (h0 : G.H0 a = none) (c : Cont M G.F H a v)
    (no : ∀ j w, O.has j → fr[j]? = some (some w) → σ[j]? ≠ some (some (V.ref a))) : Rel M (O.set i true) (σ.set i (some (.ref a))) H (fr.set i (some v)) S G := by
  have hfi : i < fr.length := by rw [R.len]; exact hi
  have oset : ∀ j, j ≠ i → Own.has (O.set i true) j → O.has j := fun j e h => by
    unfold Own.has at h ⊢
    rw [List.getElem?_set_ne (Ne.symm e)] at h
    exact h
  refine ⟨R.base, by simp [R.len], fun j w f => ?_, fun j l w x b oj ol f1 f2 g1 g2 => ?_⟩
  · by_cases hj : i = j
    · subst hj
      rw [List.getElem?_set_self hfi] at f
      have : v = w := by simpa using f
      subst this
      exact ⟨.ref a, List.getElem?_set_self hi, fun _ => ⟨a, rfl, nf, nr, h0, c⟩, fun n => absurd (List.getElem?_set_self hiO) n⟩
    · rw [List.getElem?_set_ne hj] at f
      obtain ⟨y, h1, h2, h3⟩ := R.slot j w f
      refine ⟨y, by rw [List.getElem?_set_ne hj]; exact h1, fun o => h2 (oset j (Ne.symm hj) o), fun o => h3 fun z => o ?_⟩
      show (O.set i true)[j]? = some true
      rw [List.getElem?_set_ne hj]
      exact z
  · by_cases hj : j = i
    · by_cases hl : l = i
      · rw [hj, hl]
      · subst hj
        rw [List.getElem?_set_self hi] at g1
        have e1 : a = b := by simpa using g1
        subst e1
        rw [List.getElem?_set_ne (Ne.symm hl)] at f2 g2
        exact absurd g2 (no l x (oset l hl ol) f2)
    · by_cases hl : l = i
      · subst hl
        rw [List.getElem?_set_self hi] at g2
        have e1 : a = b := by simpa using g2
        subst e1
        rw [List.getElem?_set_ne (Ne.symm hj)] at f1 g1
        exact absurd g1 (no j w (oset j hj oj) f1)
      · rw [List.getElem?_set_ne (Ne.symm hj)] at f1 g1
        rw [List.getElem?_set_ne (Ne.symm hl)] at f2 g2
        exact R.own j l w x b (oset j hj oj) (oset l hl ol) f1 f2 g1 g2
theorem Base.write (B : Base M H S G) {a : Addr} {o : HO} (nf : ¬ G.F a) (nr : a ∉ G.rho) (h0 : G.H0 a = none) (fz : FzOk M H a) : Base M (upd H a o) S G ∧ Keeps G.F G.F H (upd H a o) := by
  have nt : ∀ b, (∃ xs, H b = some (.tup xs)) → b ≠ a := fun b ⟨xs, h⟩ z => by
    subst z
    rcases fz with ⟨_, q⟩ | ⟨_, q⟩ | ⟨_, q⟩ <;> (rw [h] at q; cases q)
  have nz : ∀ b, (∃ o u, H b = some (.frz o u)) → b ≠ a := fun b ⟨_, _, h⟩ z => by
    subst z
    rcases fz with ⟨_, q⟩ | ⟨_, q⟩ | ⟨_, q⟩ <;> (rw [h] at q; cases q)
  have k : Keeps G.F G.F H (upd H a o) := ⟨fun _ h => h, fun b u f h => by rw [upd_ne (show b ≠ a from fun z => nf (by rw [← z]; exact f))]; exact h, fun b xs h => by rw [upd_ne (nt b ⟨xs, h⟩)]; exact h, fun b x u h => by rw [upd_ne (nz b ⟨x, u, h⟩)]; exact h⟩
  refine ⟨⟨B.len, fun r x b h1 h2 => ?_, B.nd, fun b h => ?_, fun b u h m => ?_, B.sub0, B.newF, B.pre, B.newR⟩, k⟩
  · have q := B.ob r x b h1 h2
    have nb : b ≠ a := fun z => nr (by rw [← z]; exact List.mem_of_getElem? h2)
    cases x with
    | lst ds =>
      obtain ⟨xs, e, r⟩ := q
      exact ⟨xs, by rw [upd_ne nb]; exact e, RpSs.keep k ⟨[], by simp⟩ r⟩
    | ins C fs =>
      obtain ⟨ca, dx, vs, e1, e2, r⟩ := q
      exact ⟨ca, dx, vs, e1, by rw [upd_ne nb]; exact e2, RpF.keep k ⟨[], by simp⟩ r⟩
  · obtain ⟨n, q⟩ := B.frz b h
    have nb : b ≠ a := fun z => nf (by rw [← z]; exact h)
    refine ⟨n, ?_⟩
    unfold FzOk at q ⊢
    rw [upd_ne nb]
    exact q
  · have nb : b ≠ a := fun z => by rw [z, h0] at h; cases h
    rw [upd_ne nb]
    exact B.keep0 b u h m
theorem Base.new0 (B : Base M H S G) {a : Addr} (h : H a = none) : G.H0 a = none ∧ a ∉ G.rho ∧ ¬ G.F a := by
  have nr : a ∉ G.rho := fun m => by
    obtain ⟨x, q⟩ := B.rho_get m
    rcases q.some with ⟨ys, e⟩ | ⟨_, _, _, e⟩ <;> (rw [h] at e; cases e)
  have nr0 : a ∉ G.rho0 := fun m => nr (by obtain ⟨more, e⟩ := B.pre; rw [e]; exact List.mem_append_left _ m)
  refine ⟨?_, nr, fun f => ?_⟩
  · cases q : G.H0 a with
    | none => rfl
    | some u =>
      have := B.keep0 a u q nr0
      rw [h] at this; cases this
  · rcases (B.frz a f).2 with ⟨_, q⟩ | ⟨_, q⟩ | ⟨_, q⟩ <;> (rw [h] at q; cases q)
structure Tmp (M : Mo) (H : Hp) (a : Addr) (v : SV) (G' : Gh) (H' : Hp) : Prop where
  new : H a = none
  nf : ¬ G'.F a
  nr : a ∉ G'.rho
  cont : Cont M G'.F H' a v
theorem Tmp.step {H2 : Hp} {G2 : Gh} {a : Addr} {v : SV} (t : Tmp M H a v G' H') (B : Base M H' S' G') (st : Stp G' H' G2 H2) : Tmp M H a v G2 H2 := by
  obtain ⟨o, ho, _⟩ := Cont.there t.cont
  have hne : H' a ≠ none := fun z => by rw [z] at ho; cases ho
  exact ⟨t.new, fun f => (st.newF a f).elim t.nf hne, fun m => (st.newR a m).elim t.nr hne, Cont.keep (B.keeps st) (fun o e => st.keep _ _ e t.nr) t.cont⟩
theorem Stp.upd_new (st : Stp G H G' H') {a : Addr} {o : HO} (h : H a = none) : Stp G H G' (upd H' a o) where
  h0 := st.h0
  f0 := st.f0
  r0 := st.r0
  sub := st.sub
  newF := st.newF
  pre := st.pre
  newR := st.newR
  keep := fun b u e n => by
    rw [upd_ne (show b ≠ a from fun z => by rw [z, h] at e; cases e)]
    exact st.keep b u e n
  there := fun b e => by
    by_cases z : b = a
    · rw [z]; exact h
    · rw [upd_ne z] at e
      exact st.there b e
theorem Rel.own_there (R : Rel M O σ H fr S G) {i : Nat} {v : SV} {a : Addr} (ho : O.has i) (e : fr[i]? = some (some v)) (hs : σ[i]? = some (some (V.ref a))) : H a ≠ none := by
  obtain ⟨u, h1, h2, _⟩ := R.slot i v e
  obtain ⟨b, e', _, _, _, c⟩ := h2 ho
  rw [h1] at hs
  have : u = .ref a := by simpa using hs
  rw [e'] at this
  cases this
  obtain ⟨o, q, _⟩ := Cont.there c
  rw [q]
  simp
theorem Rel.tmpWrite {G1 : Gh} {H1 : Hp} {S1 : Store} (R1 : Rel M O σ H1 fr S1 G1) (R : Rel M O σ H fr S G) (st : Stp G1 H1 G H) {a : Addr} {v : SV} {o : HO} (t : Tmp M H1 a v G H) :
    Rel M O σ (upd H a o) fr S G ∧ Stp G1 H1 G (upd H a o) ∧ Keeps G.F G.F H (upd H a o) := by
  obtain ⟨_, _, fz⟩ := Cont.there t.cont
  have n0 : G.H0 a = none := by rw [st.h0]; exact (R1.base.new0 t.new).1
  obtain ⟨B, k⟩ := R.base.write (o := o) t.nf t.nr n0 fz
  refine ⟨⟨B, R.len, fun j w f => ?_, R.own⟩, st.upd_new t.new, k⟩
  obtain ⟨u, h1, h2, h3⟩ := R.slot j w f
  refine ⟨u, h1, fun oj => ?_, fun oj => RpS.keep k ⟨[], by simp⟩ (h3 oj)⟩
  obtain ⟨b, e1, nfb, nrb, h0b, cb⟩ := h2 oj
  have nb : b ≠ a := fun z => by
    subst z
    subst e1
    exact R1.own_there oj f h1 t.new
  exact ⟨b, e1, nfb, nrb, h0b, Cont.keep k (fun _ q => by rw [upd_ne nb]; exact q) cb⟩
theorem Rel.tmpFreeze {G1 : Gh} {H1 : Hp} (R : Rel M O σ H fr S G) (st : Stp G1 H1 G H) {a : Addr} {x : PyData} (t : Tmp M H1 a (.d x) G H) (R1 : ∀ i v, O.has i → fr[i]? = some (some v) → σ[i]? ≠ some (some (V.ref a))) (n0 : G.H0 a = none) :
    ∃ G2, Rel M O σ H fr S G2 ∧ Stp G1 H1 G2 H ∧ RpS M G2 H (.d x) (.ref a) := by
  let F' : Addr → Prop := fun b => G.F b ∨ b = a
  have k : Keeps G.F F' H H := ⟨fun a h => .inl h, fun _ _ _ h => h, fun _ _ h => h, fun _ _ _ h => h⟩
  obtain ⟨_, _, fz⟩ := Cont.there t.cont
  have B : Base M H S { G with F := F' } := by
    refine ⟨R.base.len, fun r o b h1 h2 => ?_, R.base.nd, fun b h => ?_, R.base.keep0, fun b h => .inl (R.base.sub0 b h), fun b h => ?_, R.base.pre, R.base.newR⟩
    · have q := R.base.ob r o b h1 h2
      cases o with
      | lst ds =>
        obtain ⟨xs, e, r⟩ := q
        exact ⟨xs, e, RpSs.keep (G' := { G with F := F' }) k ⟨[], by simp⟩ r⟩
      | ins C fs =>
        obtain ⟨ca, dx, vs, e1, e2, r⟩ := q
        exact ⟨ca, dx, vs, e1, e2, RpF.keep (G' := { G with F := F' }) k ⟨[], by simp⟩ r⟩
    · rcases h with h | h
      · exact R.base.frz b h
      · subst h; exact ⟨t.nr, fz⟩
    · rcases h with h | h
      · exact R.base.newF b h
      · subst h; exact .inr n0
  refine ⟨{ G with F := F' }, ⟨B, R.len, fun j w f => ?_, R.own⟩, ⟨st.h0, st.f0, st.r0, fun b h => .inl (st.sub b h), fun b h => ?_, st.pre, st.newR, st.keep, st.there⟩, Cont.rp (F := F') (.inr rfl) (Cont.keep k (fun _ e => e) t.cont)⟩
  · obtain ⟨u, h1, h2, h3⟩ := R.slot j w f
    refine ⟨u, h1, fun oj => ?_, fun oj => RpS.keep (G' := { G with F := F' }) k ⟨[], by simp⟩ (h3 oj)⟩
    obtain ⟨b, e1, nfb, nrb, h0b, cb⟩ := h2 oj
    refine ⟨b, e1, fun z => z.elim nfb fun z => ?_, nrb, h0b, Cont.keep k (fun _ e => e) cb⟩
    subst z
    subst e1
    exact R1 j w oj f h1
  · rcases h with h | h
    · exact st.newF b h
    · subst h; exact .inr t.new
end
end PD
namespace PD
open PySem PySem.Spec PyProof.Rows L2
def Mo.of (X : Cx) : Mo := ⟨X.w, X.K, X.mg⟩
def XRep (M : Mo) (G : Gh) (H : Hp) (x : Exc) (cls : Value) (d : Option Addr) : Prop :=
  ∃ ca, M.mg x.cls = some (.ref ca) ∧ cls = .ref ca ∧
    ((x.flds = none ∧ d = none) ∨ ∃ fs da vs, x.flds = some fs ∧ d = some da ∧ H da = some (.xd vs) ∧ RpF M G H fs vs)
structure Pst {α β : Type} (M : Mo) (W : WX) (O : Own) (σ : L2.St) (H : Hp) (fr : Fr) (G : Gh) (r : Rs α) (rel : Gh → Hp → α → β → Prop) (Q : β → Hp → Prop) : Prop where
  good : r ≠ .bad
  ok : ∀ (z : α) (S' : Store), r = .ok z S' → ∀ (u : β) (H' : Hp) (G' : Gh), Rel M O σ H' fr S' G' → Stp G H G' H' → rel G' H' z u → Q u H'
  exc : ∀ (x : Exc) (S' : Store), r = .exc x S' → ∀ (H' : Hp) (G' : Gh) (cls : Value) (d : Option Addr), Rel M O σ H' fr S' G' → Stp G H G' H' → XRep M G' H' x cls d → W cls d σ H'
section
variable {M : Mo} {W : WX} {O : Own} {σ : L2.St} {H : Hp} {fr : Fr} {S : Store} {G : Gh}
theorem Pst.split {α α' β β' : Type} {r : Rs α} {f : α → Store → Rs β} {relA : Gh → Hp → α → α' → Prop} {relB : Gh → Hp → β → β' → Prop} {QB : β' → Hp → Prop} {QA : α' → Hp → Prop}
    (h : Pst M W O σ H fr G (r.bind f) relB QB)
    (next : ∀ (z : α) (S1 : Store) (u : α') (H1 : Hp) (G1 : Gh), Rel M O σ H1 fr S1 G1 → Stp G H G1 H1 → relA G1 H1 z u → Pst M W O σ H1 fr G1 (f z S1) relB QB → QA u H1) :
    Pst M W O σ H fr G r relA QA := by
  refine ⟨fun e => h.good (by rw [e]; rfl), fun z S1 e u H1 G1 R1 st1 q => ?_, fun x S1 e H1 G1 cls d R1 st1 q => h.exc x S1 (by rw [e]; rfl) H1 G1 cls d R1 st1 q⟩
  have hb : r.bind f = f z S1 := by rw [e]; rfl
  rw [hb] at h
  exact next z S1 u H1 G1 R1 st1 q ⟨h.good, fun z2 S2 e2 u2 H2 G2 R2 st2 q2 => h.ok z2 S2 e2 u2 H2 G2 R2 (st1.trans st2) q2, fun x S2 e2 H2 G2 cls d R2 st2 q2 => h.exc x S2 e2 H2 G2 cls d R2 (st1.trans st2) q2⟩
theorem Pst.fin {α β : Type} {z : α} {rel : Gh → Hp → α → β → Prop} {Q : β → Hp → Prop} (h : Pst M W O σ H fr G (.ok z S) rel Q) {u : β} {H' : Hp} {G' : Gh} (R : Rel M O σ H' fr S G') (st : Stp G H G' H') (q : rel G' H' z u) : Q u H' :=
  h.ok z S rfl u H' G' R st q
theorem Pst.here {α β : Type} {z : α} {rel : Gh → Hp → α → β → Prop} {Q : β → Hp → Prop} (h : Pst M W O σ H fr G (.ok z S) rel Q) (R : Rel M O σ H fr S G) {u : β} (q : rel G H z u) : Q u H :=
  h.fin R Stp.refl q
theorem Pst.not_bad {α β : Type} {rel : Gh → Hp → α → β → Prop} {Q : β → Hp → Prop} (h : Pst M W O σ H fr G (.bad : Rs α) rel Q) : False := h.good rfl
end
inductive RpV (M : Mo) (G : Gh) (H : Hp) : SV → V → Prop
  | val {x : SV} {u : V} : RpS M G H x u → RpV M G H x u
  | own {a : Addr} {ds : List PyData} {vs : List V} : a ∉ G.rho → H a = some (.lst vs) → RpAll M G.F H ds vs → RpV M G H (.d (.list ds)) (.ref a)
  | ownD {a : Addr} {ds : List (PyData × PyData)} : a ∉ G.rho → Cont M G.F H a (.d (.dict ds)) → RpV M G H (.d (.dict ds)) (.ref a)
abbrev RpVs (M : Mo) (G : Gh) (H : Hp) : List SV → List V → Prop := Paired (RpV M G H)
section
variable {M : Mo} {G G' : Gh} {H H' : Hp} {u : V}
theorem RpV.int {i : Int} (h : RpV M G H (.d (.int i)) u) : u = .int i := by
  cases h with
  | val h => cases h; rfl
theorem RpV.str {z : Str} (h : RpV M G H (.d (.str z)) u) : u = .str z := by
  cases h with
  | val h => cases h; rfl
theorem RpV.bl {b : Bool} (h : RpV M G H (.d (.bool b)) u) : u = .bl b := by
  cases h with
  | val h => cases h; rfl
theorem RpV.non (h : RpV M G H (.d .none) u) : u = .non := by
  cases h with
  | val h => cases h; rfl
theorem RpV.lst {ds : List PyData} (h : RpV M G H (.d (.list ds)) u) : ∃ a vs, u = .ref a ∧ H a = some (.lst vs) ∧ RpAll M G.F H ds vs := by
  cases h with
  | val h =>
    cases h with
    | lst f q r => exact ⟨_, _, rfl, q, r⟩
  | own _ q r => exact ⟨_, _, rfl, q, r⟩
theorem RpV.tup {ds : List PyData} (h : RpV M G H (.d (.tuple ds)) u) : ∃ a vs, u = .ref a ∧ SqT M.K H a vs ∧ RpAll M G.F H ds vs := by
  cases h with
  | val h =>
    cases h with
    | tup q r => exact ⟨_, _, rfl, q, r⟩
theorem RpV.obj {r : Nat} (h : RpV M G H (.obj r) u) : RpS M G H (.obj r) u := by
  cases h with
  | val h => exact h
theorem RpV.any {d : PyData} (h : RpV M G H (.d d) u) : ∃ F, Rp M F H d u := by
  cases h with
  | val h => exact ⟨_, h⟩
  | @own a ds vs _ q r =>
    have k : Keeps G.F (fun b => G.F b ∨ b = a) H H := ⟨fun _ h => .inl h, fun _ _ _ h => h, fun _ _ h => h, fun _ _ _ h => h⟩
    exact ⟨_, .lst (.inr rfl) q (RpAll.keep k r)⟩
  | @ownD a ds _ c =>
    have k : Keeps G.F (fun b => G.F b ∨ b = a) H H := ⟨fun _ h => .inl h, fun _ _ _ h => h, fun _ _ h => h, fun _ _ _ h => h⟩
    exact ⟨_, Cont.rp (.inr rfl) (Cont.keep k (fun _ e => e) c)⟩
theorem RpV.step {S : Store} {x : SV} (B : Base M H S G) (st : Stp G H G' H') (h : RpV M G H x u) : RpV M G' H' x u := by
  cases h with
  | val h => exact .val (B.rps st h)
  | own n q r =>
    refine .own (fun m => (st.newR _ m).elim n fun z => by rw [z] at q; cases q) (st.keep _ _ q n) (RpAll.keep (B.keeps st) r)
  | ownD n c =>
    obtain ⟨o, e, _⟩ := Cont.there c
    exact .ownD (fun m => (st.newR _ m).elim n fun z => by rw [z] at e; cases e) (Cont.keep (B.keeps st) (fun o e => st.keep _ _ e n) c)
theorem RpVs.step {S : Store} {xs : List SV} {us : List V} (B : Base M H S G) (st : Stp G H G' H') (h : RpVs M G H xs us) : RpVs M G' H' xs us := Paired.mapP h fun _ _ q => q.step B st
theorem RpVs.of {xs : List SV} {us : List V} (h : RpSs M G H xs us) : RpVs M G H xs us := Paired.mapP h fun _ _ q => .val q
end
def tM (M : Mo) (W : WX) (O : Own) (m : EM) : TE := fun σ H Q => ∃ fr S G, Rel M O σ H fr S G ∧ Pst M W O σ H fr G (m fr S) (RpS M) Q
def tV (M : Mo) (W : WX) (O : Own) (m : EM) : TE := fun σ H Q => ∃ fr S G, Rel M O σ H fr S G ∧ Pst M W O σ H fr G (m fr S) (RpV M) Q
def tAV (M : Mo) (W : WX) (O : Own) (m : AM) : TA := fun σ H Q => ∃ fr S G, Rel M O σ H fr S G ∧ Pst M W O σ H fr G (m fr S) (RpVs M) Q
def tT (M : Mo) (W : WX) (O : Own) (m : TMt) : TT := fun σ H Q => ∃ fr S G, Rel M O σ H fr S G ∧ Pst M W O σ H fr G (m fr S) (fun _ _ b c => b = c) Q
def tA (M : Mo) (W : WX) (O : Own) (m : AM) : TA := fun σ H Q => ∃ fr S G, Rel M O σ H fr S G ∧ Pst M W O σ H fr G (m fr S) (RpSs M) Q
def CE (X : Cx) (W : WX) (O : Own) (e : Expr) (m : EM) : Prop := PE X e (tM (.of X) W O m)
def CV (X : Cx) (W : WX) (O : Own) (e : Expr) (m : EM) : Prop := PE X e (tV (.of X) W O m)
def CAV (X : Cx) (W : WX) (O : Own) (es : List Expr) (m : AM) : Prop := PA X es (tAV (.of X) W O m)
def CT (X : Cx) (W : WX) (O : Own) (e : Expr) (m : TMt) : Prop := PT X e (tT (.of X) W O m)
def CW (X : Cx) (W : WX) (O : Own) (e : Expr) (m : TMt) : Prop := L2.PW X e (tT (.of X) W O m)
def CA (X : Cx) (W : WX) (O : Own) (es : List Expr) (m : AM) : Prop := PA X es (tA (.of X) W O m)
theorem peI {X : Cx} {e : Expr} {t t' : TE} (h : PE X e t) (i : ∀ σ H Q, t' σ H Q → t σ H Q) : PE X e t' := ⟨fun pins s σ H Q I q => h.run pins s σ H Q I (i σ H Q q)⟩
theorem ptI {X : Cx} {e : Expr} {t t' : TT} (h : PT X e t) (i : ∀ σ H Q, t' σ H Q → t σ H Q) : PT X e t' := ⟨fun pins s σ H Q I q => h.run pins s σ H Q I (i σ H Q q)⟩
theorem pwI {X : Cx} {e : Expr} {t t' : TT} (h : L2.PW X e t) (i : ∀ σ H Q, t' σ H Q → t σ H Q) : L2.PW X e t' := ⟨fun wh pins s σ H Q I q => h.run wh pins s σ H Q I (i σ H Q q)⟩
theorem paI {X : Cx} {es : List Expr} {t t' : TA} (h : PA X es t) (i : ∀ σ H Q, t' σ H Q → t σ H Q) : PA X es t' := ⟨fun pos pins s σ H Q I q => h.run pos pins s σ H Q I (i σ H Q q)⟩
def eC (x : PyData) : EM := fun _ S => .ok (.d x) S
def eV (i : Nat) : EM := fun fr S => match fr[i]? with
  | some (some v) => .ok v S
  | _ => .bad
def e1 (p : SV → Store → Rs SV) (a : EM) : EM := fun fr S => (a fr S).bind fun x S1 => p x S1
def e2 (p : SV → SV → Store → Rs SV) (a b : EM) : EM := fun fr S => (a fr S).bind fun x S1 => (b fr S1).bind fun y S2 => p x y S2
def aN : AM := fun _ S => .ok [] S
def aC (a : EM) (r : AM) : AM := fun fr S => (a fr S).bind fun x S1 => (r fr S1).bind fun xs S2 => .ok (x :: xs) S2
def eA (p : List SV → Store → Rs SV) (a : AM) : EM := fun fr S => (a fr S).bind fun xs S1 => p xs S1
def asD : SV → Option PyData
  | .d x => some x
  | _ => none
def asDs : List SV → Option (List PyData)
  | [] => some []
  | .d x :: r => (asDs r).map (x :: ·)
  | _ :: _ => none
def mkTup : List SV → Store → Rs SV := fun xs S => match asDs xs with
  | some ds => if ds.length ≤ sizeLine then .ok (.d (.tuple ds)) S else .bad
  | none => .bad
def mkLst : List SV → Store → Rs SV := fun xs S => match asDs xs with
  | some ds => if ds.length ≤ sizeLine then .ok (.d (.list ds)) S else .bad
  | none => .bad
section
variable {X : Cx} {W : WX} {O : Own} {pos : Pos}
theorem ce_C {e : Expr} {v : V} {x : PyData} (h : PE X e (tC v)) (r : ∀ F H, Rp (.of X) F H x v) : CE X W O e (eC x) := peI h fun σ H Q ⟨fr, S, G, R, p⟩ => p.here (u := v) R (r _ _)
theorem ce_int {i : Int} {j pos} : CE X W O (.Constant (.int i) j pos) (eC (.int i)) := ce_C pe_int fun _ _ => .int i
theorem ce_str {x : Str} {j pos} : CE X W O (.Constant (.str x) j pos) (eC (.str x)) := ce_C pe_str fun _ _ => .str x
theorem ce_bl {b : Bool} {j pos} : CE X W O (.Constant (.bool b) j pos) (eC (.bool b)) := ce_C pe_bl fun _ _ => .bl b
theorem ce_non {j pos} : CE X W O (.Constant .none j pos) (eC .none) := ce_C pe_non fun _ _ => .non
theorem ce_glob {x : Str} {v : V} {u : Value} {d : PyData} (hg : Gl X x) (hm : X.mg x = some u) (r : RelV v u) (rd : ∀ F H, Rp (.of X) F H d v) (hd : (x == ("__debug__" : Str)) = false := by decide) : CE X W O (.Name x pos) (eC d) := ce_C (pe_glob hg hm r hd) rd
theorem ce_var (i : Nat) {x : Str} (ho : (O[i]? == some true) = false := by rfl) (hN : X.N[i]? = some x := by rfl) (hv : Vis X.env.scope x := by first | exact Or.inl rfl | exact Or.inr (Or.inl rfl) | exact Or.inr (Or.inr rfl)) (hd : (x == ("__debug__" : Str)) = false := by decide)
    (hcd : (x == ("__classdict__" : Str)) = false := by decide) : CE X W O (.Name x pos) (eV i) := by
  refine peI (pe_var hN hv hd hcd) fun σ H Q ⟨fr, S, G, R, p⟩ => ?_
  have hno : ¬ O.has i := fun h => by
    have h' : O[i]? = some true := h
    rw [h'] at ho
    cases ho
  cases e : fr[i]? with
  | none => exact (Pst.not_bad (by simpa [eV, e] using p)).elim
  | some w =>
    cases w with
    | none => exact (Pst.not_bad (by simpa [eV, e] using p)).elim
    | some v =>
      have p' : Pst (.of X) W O σ H fr G (Rs.ok v S) (RpS (.of X)) Q := by simpa [eV, e] using p
      obtain ⟨u, h1, _, h3⟩ := R.slot i v e
      exact ⟨u, h1, p'.here R (h3 hno)⟩
def P1 (M : Mo) (r : V → Hp → VK → Prop) (p : SV → Store → Rs SV) : Prop := ∀ {W : WX} {O : Own} {σ : L2.St} {H : Hp} {fr : Fr} {S : Store} {G : Gh} {x : SV} {u : V} {Q : VK},
  Rel M O σ H fr S G → RpV M G H x u → Pst M W O σ H fr G (p x S) (RpS M) Q → r u H Q
def P2 (M : Mo) (r : R2) (p : SV → SV → Store → Rs SV) : Prop := ∀ {W : WX} {O : Own} {σ : L2.St} {H : Hp} {fr : Fr} {S : Store} {G : Gh} {x y : SV} {u v : V} {Q : VK},
  Rel M O σ H fr S G → RpV M G H x u → RpV M G H y v → Pst M W O σ H fr G (p x y S) (RpS M) Q → r u v H Q
def PN (M : Mo) (r : List V → Hp → VK → Prop) (p : List SV → Store → Rs SV) : Prop := ∀ {W : WX} {O : Own} {σ : L2.St} {H : Hp} {fr : Fr} {S : Store} {G : Gh} {xs : List SV} {us : List V} {Q : VK},
  Rel M O σ H fr S G → RpVs M G H xs us → Pst M W O σ H fr G (p xs S) (RpS M) Q → r us H Q
theorem cv_of {e : Expr} {m : EM} (h : CE X W O e m) : CV X W O e m := peI h fun σ H Q ⟨fr, S, G, R, h⟩ => ⟨fr, S, G, R, h.good, fun z S' e u H' G' R' st r => h.ok z S' e u H' G' R' st (.val r), h.exc⟩
theorem two {ma mb : EM} {r : R2} {p : SV → SV → Store → Rs SV} (hp : P2 (.of X) r p) {σ : L2.St} {H : Hp} {Q : VK} (h : tM (.of X) W O (e2 p ma mb) σ H Q) : tOp r (tV (.of X) W O ma) (tV (.of X) W O mb) σ H Q := by
  obtain ⟨fr, S, G, R, h⟩ := h
  exact ⟨fr, S, G, R, h.split fun x S1 u H1 G1 R1 st1 rx h1 => ⟨fr, S1, G1, R1, h1.split fun y S2 v H2 G2 R2 st2 ry h2 => hp R2 (rx.step R1.base st2) ry h2⟩⟩
theorem ce_op {a b : Expr} {op : Operator} {r : R2} {p : SV → SV → Store → Rs SV} {ma mb : EM} (ho : OpR X (binaryOp op) r) (hp : P2 (.of X) r p) (ha : CV X W O a ma) (hb : CV X W O b mb) : CE X W O (.BinOp a op b pos) (e2 p ma mb) :=
  peI (pe_op ho ha hb) fun σ H Q h => two hp h
theorem ce_cmp {a b : Expr} {op : CmpOp} {r : R2} {p : SV → SV → Store → Rs SV} {ma mb : EM} (ho : OpR X (compareOp op) r) (hp : P2 (.of X) r p) (ha : CV X W O a ma) (hb : CV X W O b mb) (hm : behindInMarks op b = false) : CE X W O (.Compare a [op] [b] pos) (e2 p ma mb) :=
  peI (pe_cmpR ho ha hb hm) fun σ H Q h => two hp h
theorem ce_un {a : Expr} {op : UnaryOp} {r : V → Hp → VK → Prop} {p : SV → Store → Rs SV} {ma : EM} (ho : UnR X (unaryOp op) r) (hp : P1 (.of X) r p) (ha : CV X W O a ma) : CE X W O (.UnaryOp op a pos) (e1 p ma) :=
  peI (pe_un ho ha) fun σ H Q ⟨fr, S, G, R, h⟩ => ⟨fr, S, G, R, h.split fun x S1 u H1 G1 R1 st1 rx h1 => hp R1 rx h1⟩
theorem ce_ix {a b : Expr} {r : R2} {p : SV → SV → Store → Rs SV} {ma mb : EM} (ho : IxR X r) (hp : P2 (.of X) r p) (ha : CV X W O a ma) (hb : CV X W O b mb) (hs : PlainIx b) : CE X W O (.Subscript a b pos) (e2 p ma mb) :=
  peI (pe_ix ho ha hb hs) fun σ H Q h => two hp h
theorem cav_nil : CAV X W O [] aN := paI pa_nil fun σ H Q ⟨fr, S, G, R, h⟩ => h.here R .nil
theorem cav_cons {e : Expr} {es : List Expr} {m : EM} {n : AM} (he : CV X W O e m) (hr : CAV X W O es n) (hs : starEach (e :: es) X.env = (false, eval e X.env) :: starEach es X.env := by rfl) : CAV X W O (e :: es) (aC m n) :=
  paI (pa_cons he hr hs) fun σ H Q ⟨fr, S, G, R, h⟩ => ⟨fr, S, G, R, h.split fun x S1 u H1 G1 R1 st1 rx h1 => ⟨fr, S1, G1, R1, h1.split fun xs S2 us H2 G2 R2 st2 rs h2 => h2.here R2 (.cons (rx.step R1.base st2) rs)⟩⟩
theorem ca_nil : CA X W O [] aN := paI pa_nil fun σ H Q ⟨fr, S, G, R, h⟩ => h.here R .nil
theorem ca_cons {e : Expr} {es : List Expr} {m : EM} {n : AM} (he : CE X W O e m) (hr : CA X W O es n) (hs : starEach (e :: es) X.env = (false, eval e X.env) :: starEach es X.env := by rfl) : CA X W O (e :: es) (aC m n) :=
  paI (pa_cons he hr hs) fun σ H Q ⟨fr, S, G, R, h⟩ => ⟨fr, S, G, R, h.split fun x S1 u H1 G1 R1 st1 rx h1 => ⟨fr, S1, G1, R1, h1.split fun xs S2 us H2 G2 R2 st2 rs h2 => h2.here R2 (.cons (R1.base.rps st2 rx) rs)⟩⟩
end
theorem RpSs.data {M : Mo} {G : Gh} {H : Hp} : ∀ {xs : List SV} {us : List V} {ds : List PyData}, RpSs M G H xs us → asDs xs = some ds → RpAll M G.F H ds us
  | [], _, _, .nil, e => by cases e; exact .nil
  | .d x :: r, _, ds, .cons h t, e => by
    cases q : asDs r with
    | none => simp [asDs, q] at e
    | some es =>
      have e' : x :: es = ds := by simpa [asDs, q] using e
      subst e'
      exact .cons h (RpSs.data t q)
  | .obj _ :: _, _, _, .cons _ _, e => by simp [asDs] at e
  | .scr _ :: _, _, _, .cons _ _, e => by simp [asDs] at e
section
variable {X : Cx} {W : WX} {O : Own} {pos : Pos}
theorem ce_tup {es : List Expr} {m : AM} {x1} (h : CA X W O es m) : CE X W O (.Tuple es x1 pos) (eA mkTup m) := by
  refine peI (pe_tup h) fun σ H Q ⟨fr, S, G, R, h⟩ => ⟨fr, S, G, R, h.split fun xs S1 us H1 G1 R1 st1 rs h1 => ?_⟩
  cases e : asDs xs with
  | none => exact (Pst.not_bad (by simpa [mkTup, e] using h1)).elim
  | some ds =>
    have r := rs.data e
    by_cases z : ds.length ≤ sizeLine
    · have h1' : Pst (.of X) W O σ H1 fr G1 (Rs.ok (.d (.tuple ds)) S1) (RpS (.of X)) Q := by simpa [mkTup, e, z] using h1
      refine ⟨by rw [← r.length]; exact z, fun p hp => ?_⟩
      obtain ⟨R2, st2, q⟩ := R1.newT hp r
      exact h1'.fin R2 st2 q
    · exact (Pst.not_bad (by simpa [mkTup, e, z] using h1)).elim
theorem ce_lst {es : List Expr} {m : AM} (h : CA X W O es m) : CE X W O (.List es pos) (eA mkLst m) := by
  refine peI (pe_lst h) fun σ H Q ⟨fr, S, G, R, h⟩ => ⟨fr, S, G, R, h.split fun xs S1 us H1 G1 R1 st1 rs h1 => ?_⟩
  cases e : asDs xs with
  | none => exact (Pst.not_bad (by simpa [mkLst, e] using h1)).elim
  | some ds =>
    have r := rs.data e
    by_cases z : ds.length ≤ sizeLine
    · have h1' : Pst (.of X) W O σ H1 fr G1 (Rs.ok (.d (.list ds)) S1) (RpS (.of X)) Q := by simpa [mkLst, e, z] using h1
      refine ⟨by rw [← r.length]; exact z, fun p hp => ?_⟩
      obtain ⟨G2, R2, st2, q⟩ := R1.newL hp r
      exact h1'.fin R2 st2 q
    · exact (Pst.not_bad (by simpa [mkLst, e, z] using h1)).elim
end
end PD
namespace PD
open PySem PySem.Spec PyProof.Rows L2
section
variable {X : Cx} {pins : List (Addr × Obj)} {σ : L2.St} {H : Hp} {s : Shared} {F : Addr → Prop}
theorem dK_entries {knd : KeyKind X.prog X.w Key} (hk : ∀ k v, knd.is k v = true → RelV (kV k) v) : ∀ {es : List DictEntry} {vs : List (Key × Value)} {kvs : List (Key × V)}, Pairs knd es vs → KV kvs vs →
    Vals (kvs.map fun p => kV p.1) (es.map (·.key)) ∧ Vals (kvs.map (·.2)) (es.map (·.val))
  | _, _, _, .nil, .nil => ⟨.nil, .nil⟩
  | _, _, _, .cons h1 h2 t, .cons ⟨e, r⟩ t' => by
    obtain ⟨a, b⟩ := dK_entries hk t t'
    refine ⟨.cons ?_ a, .cons ?_ b⟩
    · have q := hk _ _ h1
      rw [← e] at q
      exact q
    · rw [← h2] at r
      exact r
theorem dN_entries {w : World} : ∀ {es : List (NestedKey × Addr × V)} {ds : List DictEntry}, Paired (fun (p : NestedKey × Addr × V) (e : DictEntry) => e.hash = p.1.hash w ∧ e.key = .ref p.2.1 ∧ RelV p.2.2 e.val) es ds →
    Vals (es.map fun e => V.ref e.2.1) (ds.map (·.key)) ∧ Vals (es.map (·.2.2)) (ds.map (·.val))
  | _, _, .nil => ⟨.nil, .nil⟩
  | _, _, .cons ⟨_, r1, r2⟩ t => ⟨.cons r1 (dN_entries t).1, .cons r2 (dN_entries t).2⟩
mutual
theorem Rp.reads (I : Inv X pins σ H s) : ∀ {d : PyData} {v : V} {u : Value}, Rp (.of X) F H d v → RelV v u → ∃ as, Reads s.heap u d as
  | _, _, _, .non, r => by cases r; exact ⟨_, .none⟩
  | _, _, _, .bl b, r => by cases r; exact ⟨_, .bool b⟩
  | _, _, _, .int i, r => by obtain ⟨t, rfl⟩ := r; exact ⟨_, .int i t⟩
  | _, _, _, .str x, r => by obtain ⟨t, rfl⟩ := r; exact ⟨_, .str x t⟩
  | _, _, _, .lst f h q, r => by
    cases r
    obtain ⟨z, its, n, rv, e⟩ := I.hok _ _ h
    obtain ⟨as, ra⟩ := RpAll.reads I q rv
    exact ⟨_, .list e rfl rfl (by simpa using ra)⟩
  | _, _, _, .tup h q, r => by
    cases r
    obtain ⟨its, rv, ⟨o, e, hc, n, hd⟩, z⟩ := I.tuple h
    obtain ⟨as, ra⟩ := RpAll.reads I q rv
    exact ⟨_, .tuple e hc hd (by simpa using ra)⟩
  | _, _, _, .dK f h q1 q2, r => by
    cases r
    obtain ⟨z, y, vs, rv, o, es, ep, e, hx, hd, ko, hp, nd⟩ := I.hok _ _ h
    obtain ⟨v1, v2⟩ := dK_entries (fun _ _ hk => keyIs_rel hk) hp rv
    obtain ⟨as, ra⟩ := RpAll.reads I q1 v1
    obtain ⟨bs, rb⟩ := RpAll.reads I q2 v2
    exact ⟨_, .dict e hx.1 hd ra rb⟩
  | _, _, _, .dN f h _ q1 q2, r => by
    cases r
    obtain ⟨⟨o, ds, ep, e, hx, hd, hp, _, _⟩, _⟩ := I.hok _ _ h
    obtain ⟨v1, v2⟩ := dN_entries hp
    obtain ⟨as, ra⟩ := RpAll.reads I q1 v1
    obtain ⟨bs, rb⟩ := RpAll.reads I q2 v2
    exact ⟨_, .dict e hx.1 hd ra rb⟩
theorem RpAll.reads (I : Inv X pins σ H s) : ∀ {ds : List PyData} {vs : List V} {us : List Value}, RpAll (.of X) F H ds vs → Vals vs us → ∃ as, ReadsAll s.heap us ds as
  | _, _, _, .nil, .nil => ⟨_, .nil⟩
  | _, _, _, .cons r t, .cons q w => by
    obtain ⟨as, ra⟩ := Rp.reads I r q
    obtain ⟨bs, rb⟩ := RpAll.reads I t w
    exact ⟨_, .cons ra rb⟩
end
end
def addV : SV → SV → Store → Rs SV
  | .d (.int i), .d (.int j), S => .ok (.d (.int (i + j))) S
  | .d (.str x), .d (.str y), S => if x.length + y.length ≤ sizeLine then .ok (.d (.str (x ++ y))) S else .bad
  | .d (.tuple xs), .d (.tuple ys), S => if xs.length + ys.length ≤ sizeLine then .ok (.d (.tuple (xs ++ ys))) S else .bad
  | .d (.list xs), .d (.list ys), S => if xs.length + ys.length ≤ sizeLine then .ok (.d (.list (xs ++ ys))) S else .bad
  | _, _, _ => .bad
def addR (K : PySem.W.Frag) : R2 := fun x y H Q => (rI0 fun i j => .int (i + j)) x y H Q ∨ (∃ i j, x = .str i ∧ y = .str j ∧ i.length + j.length ≤ sizeLine ∧ Q (.str (i ++ j)) H) ∨ rCatA K x y H Q ∨ rCat x y H Q
theorem op_addR {X : Cx} : OpR X (binaryOp .Add) (addR X.K) := op_add.or (op_add_str.or (op_catA.or op_cat))
theorem p_add {M : Mo} : P2 M (addR M.K) addV := by
  intro W O σ H fr S G x y u v Q R rx ry h
  unfold addV at h
  split at h
  · obtain rfl := rx.int; obtain rfl := ry.int
    exact .inl ⟨_, _, rfl, rfl, h.here R (.int _)⟩
  · obtain rfl := rx.str; obtain rfl := ry.str
    split at h
    · rename_i hz
      exact .inr (.inl ⟨_, _, rfl, rfl, hz, h.here R (.str _)⟩)
    · exact h.not_bad.elim
  · obtain ⟨_, _, rfl, h1, r1⟩ := rx.tup
    obtain ⟨_, _, rfl, h2, r2⟩ := ry.tup
    split at h
    · rename_i hz
      have hz' := hz
      rw [r1.length, r2.length] at hz'
      refine .inr (.inr (.inl ⟨_, _, _, _, rfl, rfl, h1, h2, hz', fun e => ?_, fun _ e => ?_, fun _ _ p hp => ?_⟩))
      · subst e
        cases r1
        exact h.here R (.tup h2 r2)
      · subst e
        cases r2
        rw [List.append_nil] at h
        exact h.here R (.tup h1 r1)
      · obtain ⟨R2, st2, q⟩ := R.newT hp (r1.append r2)
        exact h.fin R2 st2 q
    · exact h.not_bad.elim
  · obtain ⟨_, _, rfl, h1, r1⟩ := rx.lst
    obtain ⟨_, _, rfl, h2, r2⟩ := ry.lst
    split at h
    · rename_i hz
      have hz' := hz
      rw [r1.length, r2.length] at hz'
      refine .inr (.inr (.inr ⟨_, _, _, _, rfl, rfl, h1, h2, hz', fun p hp => ?_⟩))
      obtain ⟨G2, R2, st2, q⟩ := R.newL hp (r1.append r2)
      exact h.fin R2 st2 q
    · exact h.not_bad.elim
  · exact h.not_bad.elim
def subV : SV → SV → Store → Rs SV
  | .d (.int i), .d (.int j), S => .ok (.d (.int (i - j))) S
  | _, _, _ => .bad
theorem p_sub {M : Mo} : P2 M (rI0 fun i j => .int (i - j)) subV := by
  intro W O σ H fr S G x y u v Q R rx ry h
  unfold subV at h
  split at h
  · obtain rfl := rx.int; obtain rfl := ry.int
    exact ⟨_, _, rfl, rfl, h.here R (.int _)⟩
  · exact h.not_bad.elim
def small64 (i : Int) : Bool := decide (-(2 ^ 64) < i) && decide (i < 2 ^ 64)
def repS (z : Str) (k : Nat) : Str := ⟨(List.replicate k z.cps).foldl (· ++ ·) #[]⟩
theorem repS_cps (z : Str) (k : Nat) : (repS z k).cps.toList = (List.replicate k z.cps.toList).flatten := by
  have : ∀ (k : Nat) (acc : Array Nat), ((List.replicate k z.cps).foldl (· ++ ·) acc).toList = acc.toList ++ (List.replicate k z.cps.toList).flatten := fun k => by
    induction k with
    | zero => intro acc; simp
    | succ k ih =>
      intro acc
      rw [List.replicate_succ, List.foldl_cons, ih, List.replicate_succ, List.flatten_cons, Array.toList_append, List.append_assoc]
  have := this k #[]
  simp only [List.nil_append] at this
  exact this
theorem repS_len (z : Str) (k : Nat) : (repS z k).length = k * z.length := by
  have h := congrArg List.length (repS_cps z k)
  have e : ∀ (k : Nat) (xs : List Nat), (List.replicate k xs).flatten.length = k * xs.length := fun k xs => by
    induction k with
    | zero => simp
    | succ k ih => rw [List.replicate_succ, List.flatten_cons, List.length_append, ih, Nat.succ_mul, Nat.add_comm]
  rw [e] at h
  simpa [Str.length] using h
def rRepS : R2 := fun x y H Q => ∃ z k, x = V.str z ∧ y = V.int k ∧ 0 ≤ k ∧ k ≤ 4000 ∧ z.length ≤ 4000 ∧ Q (.str (repS z k.toNat)) H
theorem op_repS {X : Cx} : OpR X (binaryOp .Mult) rRepS := by
  intro pins s σ H x y v u Q I rx ry h
  obtain ⟨z, k, rfl, rfl, k0, k1, hz, q⟩ := h
  obtain ⟨t, rfl⟩ := rx
  obtain ⟨t2, rfl⟩ := ry
  have sz : sizeLine = 16777216 := sizeLine_eq
  have hm : z.length * k.toNat ≤ 4000 * 4000 := Nat.mul_le_mul hz (by omega)
  refine P.mul_str ?_ ?_ ?_ ?_
  · rw [decide_eq_false (by omega), decide_eq_false (by omega)]
    rfl
  · intro h1 _
    have : (2 ^ 63 - 1 : Int) / k ≥ 9223372036854775 / 4 := by
      rw [ge_iff_le, Int.le_ediv_iff_mul_le (by omega)]
      omega
    omega
  · intro _ _
    unfold Builtin.Str.tooLong
    rw [decide_eq_false (by omega)]
  · by_cases h1 : k < 1
    · rw [if_pos h1]
      have : k = 0 := by omega
      subst this
      exact ⟨by decide, .str _, H, I.tok _, ⟨_, rfl⟩, q⟩
    · rw [if_neg h1]
      by_cases h2 : (k == 1 || z.length == 0) = true
      · rw [if_pos h2]
        have e : repS z k.toNat = z := by
          rw [Bool.or_eq_true, beq_iff_eq, beq_iff_eq] at h2
          rcases h2 with h2 | h2
          · subst h2
            show (⟨#[] ++ z.cps⟩ : Str) = z
            rw [Array.empty_append]
          · have e1 : z.cps.toList = [] := by
              have : z.cps.toList.length = 0 := by simpa [Str.length] using h2
              exact List.length_eq_zero_iff.mp this
            have e2 := repS_cps z k.toNat
            rw [e1] at e2
            have e3 : (repS z k.toNat).cps.toList = z.cps.toList := by rw [e2, e1]; simp
            have e4 : (repS z k.toNat).cps = z.cps := Array.toList_inj.mp e3
            cases z
            simp only [repS] at e4 ⊢
            rw [e4]
        rw [e] at q
        exact ⟨.str _, H, I, ⟨_, rfl⟩, q⟩
      · rw [if_neg h2]
        refine ⟨?_, .str _, H, I.tok _, ⟨_, rfl⟩, q⟩
        have := repS_len z k.toNat
        unfold repS at this
        rw [this, Nat.mul_comm]
        omega
def mulV : SV → SV → Store → Rs SV
  | .d (.str z), .d (.int k), S => if (decide (0 ≤ k) && decide (k ≤ 4000) && decide (z.length ≤ 4000)) = true then .ok (.d (.str (repS z k.toNat))) S else .bad
  | .d (.int i), .d (.int j), S => if (small64 i || small64 j) = true then .ok (.d (.int (i * j))) S else .bad
  | .d (.list xs), .d (.int k), S => if (decide (-(2 ^ 63) ≤ k) && decide (k < 2 ^ 63) && decide (xs.length * k.toNat ≤ sizeLine)) = true then .ok (.d (.list (List.replicate k.toNat xs).flatten)) S else .bad
  | .d (.tuple xs), .d (.int k), S => if (!xs.isEmpty && decide (2 ≤ k) && decide (k ≤ 1000) && decide (xs.length ≤ 1000)) = true then .ok (.d (.tuple (List.replicate k.toNat xs).flatten)) S else .bad
  | _, _, _ => .bad
def mulR (K : PySem.W.Frag) : R2 := fun x y H Q => rI CMul (fun i j => .int (i * j)) x y H Q ∨ rRep x y H Q ∨ rRepT K x y H Q ∨ rRepS x y H Q
theorem op_mulR {X : Cx} : OpR X (binaryOp .Mult) (mulR X.K) := op_mul.or (op_rep.or (op_repT.or op_repS))
theorem RpAll.replicate {M : Mo} {F : Addr → Prop} {H : Hp} {ds : List PyData} {vs : List V} (r : RpAll M F H ds vs) : ∀ n : Nat, RpAll M F H (List.replicate n ds).flatten (List.replicate n vs).flatten
  | 0 => .nil
  | n + 1 => by
    rw [List.replicate_succ, List.replicate_succ, List.flatten_cons, List.flatten_cons]
    exact r.append (r.replicate n)
theorem p_mul {M : Mo} : P2 M (mulR M.K) mulV := by
  intro W O σ H fr S G x y u v Q R rx ry h
  unfold mulV at h
  split at h
  · obtain rfl := ry.int
    obtain rfl := rx.str
    split at h
    · rename_i hz
      simp only [Bool.and_eq_true, decide_eq_true_eq] at hz
      exact .inr (.inr (.inr ⟨_, _, rfl, rfl, hz.1.1, hz.1.2, hz.2, h.here R (.str _)⟩))
    · exact h.not_bad.elim
  · obtain rfl := rx.int; obtain rfl := ry.int
    split at h
    · rename_i hz
      refine .inl ⟨_, _, rfl, rfl, ?_, h.here R (.int _)⟩
      simp only [small64, Bool.or_eq_true, Bool.and_eq_true, decide_eq_true_eq] at hz
      exact hz
    · exact h.not_bad.elim
  · obtain rfl := ry.int
    obtain ⟨_, _, rfl, h1, r1⟩ := rx.lst
    split at h
    · rename_i hz
      simp only [Bool.and_eq_true, decide_eq_true_eq] at hz
      have hz' := hz.2
      rw [r1.length] at hz'
      refine .inr (.inl ⟨_, _, _, rfl, rfl, h1, hz.1.1, hz.1.2, hz', fun p hp => ?_⟩)
      obtain ⟨G2, R2, st2, q⟩ := R.newL hp (r1.replicate _)
      exact h.fin R2 st2 q
    · exact h.not_bad.elim
  · obtain rfl := ry.int
    obtain ⟨_, _, rfl, h1, r1⟩ := rx.tup
    split at h
    · rename_i hz
      simp only [Bool.and_eq_true, decide_eq_true_eq] at hz
      have hl := r1.length
      refine .inr (.inr (.inl ⟨_, _, _, rfl, rfl, h1, ?_, hz.1.1.2, hz.1.2, by rw [← hl]; exact hz.2, fun p hp => ?_⟩))
      · intro e
        subst e
        cases r1
        simp at hz
      · obtain ⟨R2, st2, q⟩ := R.newT hp (r1.replicate _)
        exact h.fin R2 st2 q
    · exact h.not_bad.elim
  · exact h.not_bad.elim
def modV : SV → SV → Store → Rs SV
  | .d (.int i), .d (.int j), S => if 0 < j then .ok (.d (.int (i % j))) S else .bad
  | _, _, _ => .bad
theorem p_mod {M : Mo} : P2 M (rI (fun _ j => 0 < j) fun i j => .int (i % j)) modV := by
  intro W O σ H fr S G x y u v Q R rx ry h
  unfold modV at h
  split at h
  · obtain rfl := rx.int; obtain rfl := ry.int
    split at h
    · rename_i hz
      exact ⟨_, _, rfl, rfl, hz, h.here R (.int _)⟩
    · exact h.not_bad.elim
  · exact h.not_bad.elim
def divV : SV → SV → Store → Rs SV
  | .d (.int i), .d (.int j), S => if 0 < j ∧ j < 1073741824 then .ok (.d (.int (i / j))) S else .bad
  | _, _, _ => .bad
theorem p_div {M : Mo} : P2 M (rI CDiv fun i j => .int (i / j)) divV := by
  intro W O σ H fr S G x y u v Q R rx ry h
  unfold divV at h
  split at h
  · obtain rfl := rx.int; obtain rfl := ry.int
    split at h
    · rename_i hz
      exact ⟨_, _, rfl, rfl, hz, h.here R (.int _)⟩
    · exact h.not_bad.elim
  · exact h.not_bad.elim
def powV : SV → SV → Store → Rs SV
  | .d (.int i), .d (.int j), S => if 0 ≤ j ∧ j ≤ 1000000 ∧ i.natAbs < 2 ^ 64 then .ok (.d (.int (i ^ j.toNat))) S else .bad
  | _, _, _ => .bad
theorem p_pow {M : Mo} : P2 M (rI CPow fun i j => .int (i ^ j.toNat)) powV := by
  intro W O σ H fr S G x y u v Q R rx ry h
  unfold powV at h
  split at h
  · obtain rfl := rx.int; obtain rfl := ry.int
    split at h
    · rename_i hz
      exact ⟨_, _, rfl, rfl, hz, h.here R (.int _)⟩
    · exact h.not_bad.elim
  · exact h.not_bad.elim
def negV : SV → Store → Rs SV
  | .d (.int i), S => .ok (.d (.int (-i))) S
  | _, _ => .bad
theorem p_neg {M : Mo} : P1 M (rU fun i => .int (-i)) negV := by
  intro W O σ H fr S G x u Q R rx h
  unfold negV at h
  split at h
  · obtain rfl := rx.int
    exact ⟨_, rfl, h.here R (.int _)⟩
  · exact h.not_bad.elim
def lstDiff : PyData → PyData → Bool
  | .list xs, .list ys => decide (xs.length ≠ ys.length)
  | .tuple (_ :: _), .tuple [] => true
  | .tuple [], .tuple (_ :: _) => true
  | _, _ => false
def eqOk (d e : PyData) : Bool := (d.canLay0 && e.canLay0 && decide (min d.depth e.depth ≤ 190)) || lstDiff d e
theorem eqvAll_len : ∀ {xs ys : List PyData}, xs.length ≠ ys.length → PyData.eqvAll xs ys = false
  | [], [], h => absurd rfl h
  | [], _ :: _, _ => rfl
  | _ :: _, [], _ => rfl
  | x :: xs, y :: ys, h => by
    rw [PyData.eqvAll, eqvAll_len (fun e => h (by simp [e]))]
    simp
def eqV (neg : Bool) : SV → SV → Store → Rs SV
  | .d (.str x), .d (.str y), S => .ok (.d (.bool (neg ^^ decide (x = y)))) S
  | .d x, .d y, S => if eqOk x y = true then .ok (.d (.bool (neg ^^ PyData.eqv x y))) S else .bad
  | _, _, _ => .bad
def eqR (X : Cx) (neg : Bool) : R2 := fun x y H Q => (∃ i j, x = .str i ∧ y = .str j ∧ Q (.bl (neg ^^ decide (i = j))) H) ∨ ∃ F F' d e, Rp (.of X) F H d x ∧ Rp (.of X) F' H e y ∧ eqOk d e = true ∧ Q (.bl (neg ^^ PyData.eqv d e)) H
theorem room190 {k : Nat} {A : Around} (hr : Room k A) {n : Nat} (h : n ≤ 190) : A.units + n < cLine := by
  have := hr.un
  omega
theorem strs_dec (i j : Str) : decide (V.str i = V.str j) = decide (i = j) := by
  rw [Bool.eq_iff_iff]
  simp
theorem diff_lists {X : Cx} {pins : List (Addr × Obj)} {σ : L2.St} {H : Hp} {s : Shared} {F F' : Addr → Prop} {d e : PyData} {x y : V} {u v : Value} (I : Inv X pins σ H s) (hd : Rp (.of X) F H d x) (he : Rp (.of X) F' H e y) (rx : RelV x u) (ry : RelV y v) (h : lstDiff d e = true) :
    PyData.eqv d e = false ∧ ∃ l b, u = .ref l ∧ v = .ref b ∧ ∀ A : Around, A.units < cLine → SeqAt.RcAt A s (.ref l) (.ref b) false ∧ SeqAt.RcNeAt A s (.ref l) (.ref b) true := by
  unfold lstDiff at h
  split at h
  · rename_i xs ys
    cases hd with
    | @lst a vs _ f q r =>
      cases he with
      | @lst b us _ f' q' r' =>
        obtain ⟨its, rv, pl, _⟩ := I.list (.inl (.inl q))
        obtain ⟨its2, rv2, pl2, _⟩ := I.list (.inl (.inl q'))
        have ne : its.toArray.size ≠ its2.toArray.size := by
          have h1 := rv.length
          have h2 := rv2.length
          have h3 := r.length
          have h4 := r'.length
          have := of_decide_eq_true h
          simp only [List.size_toArray]
          omega
        refine ⟨by rw [PyData.eqv, eqvAll_len (of_decide_eq_true h)], a, b, rx, ry, fun A hu => ⟨?_, ?_⟩⟩
        · exact SeqAt.RcAt.lists_lengths pl.isList pl2.isList (by simpa using ne) hu
        · exact SeqAt.RcNeAt.lists_lengths pl.isList pl2.isList (by simpa using ne) hu
  · rename_i x xs
    cases hd with
    | @tup a vs _ q r =>
      cases he with
      | @tup b us _ q' r' =>
        obtain ⟨its, rv, pl, _⟩ := I.tuple q
        obtain ⟨its2, rv2, pl2, _⟩ := I.tuple q'
        have h1 := rv.length
        have h2 := rv2.length
        have h3 := r.length
        have h4 := r'.length
        have z2 : its2.toArray.size = 0 := by simp only [List.size_toArray]; simp at h4; omega
        have z1 : its.toArray.size ≠ 0 := by simp only [List.size_toArray]; simp at h3; omega
        have eb : ((List.range (min its.toArray.size its2.toArray.size)).all (fun _ => true) && its.toArray.size == its2.toArray.size) = false := by
          rw [z2]
          simp
          simpa using z1
        refine ⟨rfl, a, b, rx, ry, fun A hu => ⟨?_, ?_⟩⟩
        · have := SeqAt.RcAt.tuples (A := A) (e := fun _ => true) pl pl2 hu (fun j h1 h2 => absurd h2 (by omega))
          rw [eb] at this
          exact this
        · have := SeqAt.RcNeAt.tuples (A := A) (e := fun _ => true) pl pl2 hu (fun j h1 h2 => absurd h2 (by omega))
          rw [eb] at this
          exact this
  · rename_i x xs
    cases hd with
    | @tup a vs _ q r =>
      cases he with
      | @tup b us _ q' r' =>
        obtain ⟨its, rv, pl, _⟩ := I.tuple q
        obtain ⟨its2, rv2, pl2, _⟩ := I.tuple q'
        have h1 := rv.length
        have h2 := rv2.length
        have h3 := r.length
        have h4 := r'.length
        have z2 : its.toArray.size = 0 := by simp only [List.size_toArray]; simp at h3; omega
        have z1 : its2.toArray.size ≠ 0 := by simp only [List.size_toArray]; simp at h4; omega
        have eb : ((List.range (min its.toArray.size its2.toArray.size)).all (fun _ => true) && its.toArray.size == its2.toArray.size) = false := by
          rw [z2]
          simp
          exact fun e => z1 (by simpa using e.symm)
        refine ⟨rfl, a, b, rx, ry, fun A hu => ⟨?_, ?_⟩⟩
        · have := SeqAt.RcAt.tuples (A := A) (e := fun _ => true) pl pl2 hu (fun j h1 h2 => absurd h1 (by omega))
          rw [eb] at this
          exact this
        · have := SeqAt.RcNeAt.tuples (A := A) (e := fun _ => true) pl pl2 hu (fun j h1 h2 => absurd h1 (by omega))
          rw [eb] at this
          exact this
  · cases h
theorem op_eqR {X : Cx} {k : Nat} (hr : Room k X.A) : OpR X (compareOp .Eq) (eqR X false) := by
  intro pins s σ H x y v u Q I rx ry h
  rcases h with ⟨i, j, rfl, rfl, q⟩ | ⟨F, F', d, e, hd, he, ok, q⟩
  · exact op_eq pins s σ H _ _ v u Q I rx ry ⟨rfl, by rw [strs_dec]; simpa using q⟩
  simp only [eqOk, Bool.or_eq_true, Bool.and_eq_true, decide_eq_true_eq] at ok
  rcases ok with ok | ok
  · obtain ⟨as, r1⟩ := hd.reads I rx
    obtain ⟨bs, r2⟩ := he.reads I ry
    exact SeqAt.compareEq_reads r1 r2 ok.1.1 ok.1.2 (room190 hr ok.2) ⟨.bl _, H, I, rfl, by simpa using q⟩
  · obtain ⟨ef, l, b, e1, e2, h1⟩ := diff_lists I hd he rx ry ok
    subst e1 e2
    rw [ef] at q
    exact (h1 X.A (by have := hr.un; omega)).1 X.prog X.w X.xe (EP X pins σ Q) ⟨.bl _, H, I, rfl, by simpa using q⟩
theorem op_neR {X : Cx} {k : Nat} (hr : Room k X.A) : OpR X (compareOp .NotEq) (eqR X true) := by
  intro pins s σ H x y v u Q I rx ry h
  rcases h with ⟨i, j, rfl, rfl, q⟩ | ⟨F, F', d, e, hd, he, ok, q⟩
  · exact op_ne pins s σ H _ _ v u Q I rx ry ⟨rfl, by rw [strs_dec]; simpa using q⟩
  simp only [eqOk, Bool.or_eq_true, Bool.and_eq_true, decide_eq_true_eq] at ok
  rcases ok with ok | ok
  · obtain ⟨as, r1⟩ := hd.reads I rx
    obtain ⟨bs, r2⟩ := he.reads I ry
    exact SeqAt.compareNe_reads r1 r2 ok.1.1 ok.1.2 (room190 hr ok.2) ⟨.bl _, H, I, rfl, by simpa using q⟩
  · obtain ⟨ef, l, b, e1, e2, h1⟩ := diff_lists I hd he rx ry ok
    subst e1 e2
    rw [ef] at q
    exact (h1 X.A (by have := hr.un; omega)).2 X.prog X.w X.xe (EP X pins σ Q) ⟨.bl _, H, I, rfl, by simpa using q⟩
theorem p_eq {X : Cx} {neg : Bool} : P2 (.of X) (eqR X neg) (eqV neg) := by
  intro W O σ H fr S G x y u v Q R rx ry h
  unfold eqV at h
  split at h
  · obtain rfl := rx.str; obtain rfl := ry.str
    exact .inl ⟨_, _, rfl, rfl, h.here R (.bl _)⟩
  · split at h
    · rename_i hz
      obtain ⟨_, rx⟩ := rx.any
      obtain ⟨_, ry⟩ := ry.any
      exact .inr ⟨_, _, _, _, rx, ry, hz, h.here R (.bl _)⟩
    · exact h.not_bad.elim
  · exact h.not_bad.elim
def inOk (d : PyData) (ds : List PyData) : Bool := PyData.canLayAll0 ds && d.canLay0 && decide (min (PyData.depthAll ds) d.depth ≤ 189)
def inV (neg : Bool) : SV → SV → Store → Rs SV
  | .d (.str c), .d (.str z), S => .ok (.d (.bool (neg ^^ !(Builtin.Str.occurrences z c 0 z.length 1).isEmpty))) S
  | .d x, .d (.list ds), S => if inOk x ds = true then .ok (.d (.bool (neg ^^ ds.any fun y => PyData.eqv y x))) S else .bad
  | .d x, .d (.tuple ds), S => if inOk x ds = true then .ok (.d (.bool (neg ^^ ds.any fun y => PyData.eqv y x))) S else .bad
  | _, _, _ => .bad
end PD
namespace PD
open PySem PySem.Spec PyProof.Rows L2
def isNone : SV → Bool
  | .d .none => true
  | _ => false
def isV (neg : Bool) : SV → SV → Store → Rs SV
  | x, .d .none, S => .ok (.d (.bool (neg ^^ isNone x))) S
  | _, _, _ => .bad
theorem RpAll.atI {M : Mo} {F : Addr → Prop} {H : Hp} {ds : List PyData} {vs : List V} {i : Int} {d : PyData} (r : RpAll M F H ds vs) (h : L2.atI ds i = some d) : ∃ v, L2.atI vs i = some v ∧ Rp M F H d v := by
  unfold L2.atI at h ⊢
  rw [← r.length]
  cases e : ixN ds.length i with
  | none => rw [e] at h; cases h
  | some j =>
    rw [e] at h
    exact r.get h
theorem RpSs.atI {M : Mo} {G : Gh} {H : Hp} {ds : List SV} {vs : List V} {i : Int} {d : SV} (r : RpSs M G H ds vs) (h : L2.atI ds i = some d) : ∃ v, L2.atI vs i = some v ∧ RpS M G H d v := by
  have hl : ds.length = vs.length := Paired.length r
  have hg : ∀ {xs : List SV} {us : List V} {j : Nat}, RpSs M G H xs us → xs[j]? = some d → ∃ v, us[j]? = some v ∧ RpS M G H d v := by
    intro xs us j r
    induction r generalizing j with
    | nil => intro e; simp at e
    | cons q t ih =>
      intro e
      cases j with
      | zero =>
        simp at e
        subst e
        exact ⟨_, by simp, q⟩
      | succ j =>
        obtain ⟨v, h1, h2⟩ := ih (by simpa using e)
        exact ⟨v, by simpa using h1, h2⟩
  unfold L2.atI at h ⊢
  rw [← hl]
  cases e : ixN ds.length i with
  | none => rw [e] at h; cases h
  | some j =>
    rw [e] at h
    exact hg r h
def ixV : SV → SV → Store → Rs SV
  | .d (.list ds), .d (.int i), S => match L2.atI ds i with
    | some d => .ok (.d d) S
    | none => .bad
  | .d (.tuple ds), .d (.int i), S => match L2.atI ds i with
    | some d => .ok (.d d) S
    | none => .bad
  | .d (.str z), .d (.int i), S => match L2.atI z.cps.toList i with
    | some c => if z.length ≤ sizeLine then .ok (.d (.str ⟨#[c]⟩)) S else .bad
    | none => .bad
  | .obj r, .d (.int i), S => match S[r]? with
    | some (.lst xs) => (match L2.atI xs i with
      | some d => .ok d S
      | none => .bad)
    | _ => .bad
  | _, _, _ => .bad
theorem Base.store_at {M : Mo} {H : Hp} {S : Store} {G : Gh} (B : Base M H S G) {r : Nat} {o : Ob} {u : V} (h : S[r]? = some o) (q : RpS M G H (.obj r) u) : ∃ a, u = .ref a ∧ ObR M G H o a ∧ G.rho[r]? = some a := by
  obtain ⟨a, e, z⟩ := q
  exact ⟨a, z, B.ob r o a h e, e⟩
theorem p_ix {M : Mo} : P2 M (rIx M.K) ixV := by
  intro W O σ H fr S G x y u v Q R rx ry h
  unfold ixV at h
  split at h
  · obtain rfl := ry.int
    split at h
    · rename_i hz
      obtain ⟨_, _, rfl, h1, r1⟩ := rx.lst
      obtain ⟨w, hw, rw'⟩ := r1.atI hz
      exact .inl ⟨_, _, _, w, rfl, rfl, SqL.of h1, hw, h.here R rw'⟩
    · exact h.not_bad.elim
  · obtain rfl := ry.int
    split at h
    · rename_i hz
      obtain ⟨_, _, rfl, h1, r1⟩ := rx.tup
      obtain ⟨w, hw, rw'⟩ := r1.atI hz
      exact .inr (.inl ⟨_, _, _, w, rfl, rfl, h1, hw, h.here R rw'⟩)
    · exact h.not_bad.elim
  · obtain rfl := ry.int
    split at h
    · rename_i hz
      split at h
      · rename_i hl
        obtain rfl := rx.str
        exact .inr (.inr ⟨_, _, _, rfl, rfl, hl, hz, h.here R (.str _)⟩)
      · exact h.not_bad.elim
    · exact h.not_bad.elim
  · obtain rfl := ry.int
    split at h
    · rename_i hs
      split at h
      · rename_i hz
        obtain ⟨a, rfl, ⟨vs, e, rs⟩, _⟩ := R.base.store_at hs rx.obj
        obtain ⟨w, hw, rw'⟩ := rs.atI hz
        exact .inl ⟨_, _, _, w, rfl, rfl, SqL.of e, hw, h.here R rw'⟩
      · exact h.not_bad.elim
    · exact h.not_bad.elim
  · exact h.not_bad.elim
abbrev OMt := Fr → Store → Rs (Option Int)
def tO (M : Mo) (W : WX) (O : Own) (m : OMt) : TO := fun σ H Q => ∃ fr S G, Rel M O σ H fr S G ∧ Pst M W O σ H fr G (m fr S) (fun _ _ b c => b = c) Q
def CO (X : Cx) (W : WX) (O : Own) (e : Option Expr) (m : OMt) : Prop := PO X e (tO (.of X) W O m)
def oN : OMt := fun _ S => .ok none S
def oS (m : EM) : OMt := fun fr S => (m fr S).bind fun x S1 => match x with
  | .d (.int i) => .ok (some i) S1
  | _ => .bad
theorem poI {X : Cx} {e : Option Expr} {t t' : TO} (h : PO X e t) (i : ∀ σ H Q, t' σ H Q → t σ H Q) : PO X e t' := ⟨fun pins s σ H Q I q => h.run pins s σ H Q I (i σ H Q q)⟩
section
variable {X : Cx} {W : WX} {O : Own} {pos p2 : Pos}
theorem co_none : CO X W O none oN := poI po_none fun σ H Q ⟨fr, S, G, R, h⟩ => h.here R rfl
theorem co_some {e : Expr} {m : EM} (h : CE X W O e m) : CO X W O (some e) (oS m) := poI (po_some h) fun σ H Q ⟨fr, S, G, R, h⟩ => ⟨fr, S, G, R, h.split fun x S1 u H1 G1 R1 st1 rx h1 => by
  split at h1
  · cases rx
    exact ⟨_, rfl, h1.here R1 rfl⟩
  · exact h1.not_bad.elim⟩
def cutD (xs : List PyData) (lo hi : Option Int) : List PyData := (xs.drop (HT.sIx xs.length 0 lo)).take (HT.sIx xs.length xs.length hi - HT.sIx xs.length 0 lo)
theorem RpAll.drop {M : Mo} {F : Addr → Prop} {H : Hp} : ∀ {ds : List PyData} {vs : List V} (n : Nat), RpAll M F H ds vs → RpAll M F H (ds.drop n) (vs.drop n)
  | _, _, 0, r => by simpa using r
  | _, _, _ + 1, .nil => by simpa using RpAll.nil
  | _, _, n + 1, .cons _ t => by simpa using RpAll.drop n t
theorem RpAll.take {M : Mo} {F : Addr → Prop} {H : Hp} : ∀ {ds : List PyData} {vs : List V} (n : Nat), RpAll M F H ds vs → RpAll M F H (ds.take n) (vs.take n)
  | _, _, 0, r => by simpa using RpAll.nil
  | _, _, _ + 1, .nil => by simpa using RpAll.nil
  | _, _, n + 1, .cons r t => by simpa using RpAll.cons r (RpAll.take n t)
theorem RpAll.cut {M : Mo} {F : Addr → Prop} {H : Hp} {ds : List PyData} {vs : List V} {lo hi : Option Int} (r : RpAll M F H ds vs) : RpAll M F H (cutD ds lo hi) (cutV vs lo hi) := by
  unfold cutD cutV
  rw [← r.length]
  exact (r.drop _).take _
def cutI (xs : List Int) (lo hi : Option Int) : List Int := (xs.drop (HT.sIx xs.length 0 lo)).take (HT.sIx xs.length xs.length hi - HT.sIx xs.length 0 lo)
theorem cutV_ints (ns : List Int) (lo hi : Option Int) : cutV (ns.map V.int) lo hi = (cutI ns lo hi).map V.int := by
  unfold cutV cutI
  rw [List.length_map, List.map_take, List.map_drop]
theorem RpAll.ints {M : Mo} {F : Addr → Prop} {H : Hp} : ∀ ns : List Int, RpAll M F H (ns.map .int) (ns.map V.int)
  | [] => .nil
  | n :: ns => .cons (.int n) (RpAll.ints ns)
def slV (x : SV) (lo hi : Option Int) (S : Store) : Rs SV := match x with
  | .d (.list ds) => .ok (.d (.list (cutD ds lo hi))) S
  | .d (.tuple ds) => .ok (.d (.tuple (cutD ds lo hi))) S
  | .d (.str z) => if z.length ≤ sizeLine then .ok (.d (.str (cutS z lo hi))) S else .bad
  | .scr ns => .ok (.d (.list ((cutI ns lo hi).map .int))) S
  | _ => .bad
def eSl (a : EM) (l u : OMt) : EM := fun fr S => (a fr S).bind fun x S1 => (l fr S1).bind fun lo S2 => (u fr S2).bind fun hi S3 => slV x lo hi S3
theorem cutD_all (ds : List PyData) (lo hi : Option Int) (h : HT.sIx ds.length 0 lo = 0 ∧ HT.sIx ds.length ds.length hi = ds.length) : cutD ds lo hi = ds := by
  unfold cutD
  rw [h.1, h.2]
  simp
theorem ce_slice {e : Expr} {lo hi : Option Expr} {m : EM} {l u : OMt} (he : CV X W O e m) (hl : CO X W O lo l) (hu : CO X W O hi u) : CE X W O (.Subscript e (.Slice lo hi none p2) pos) (eSl m l u) :=
  peI (pe_slice (sl_list.or (sl_tupA.or sl_str)) he hl hu) fun σ H Q ⟨fr, S, G, R, h⟩ => ⟨fr, S, G, R, h.split fun x S1 v H1 G1 R1 st1 rx h1 => ⟨fr, S1, G1, R1, h1.split fun lo S2 lo' H2 G2 R2 st2 e2 h2 => ⟨fr, S2, G2, R2, h2.split fun hi S3 hi' H3 G3 R3 st3 e3 h3 => by
    subst e2 e3
    have rx3 := rx.step R1.base (st2.trans st3)
    unfold slV at h3
    split at h3
    · obtain ⟨_, _, rfl, q, r⟩ := rx3.lst
      refine .inl ⟨_, _, rfl, SqL.of q, fun p hp => ?_⟩
      obtain ⟨G4, R4, st4, q4⟩ := R3.newL hp r.cut
      exact h3.fin R4 st4 q4
    · obtain ⟨_, _, rfl, q, r⟩ := rx3.tup
      refine .inr (.inl ⟨_, _, rfl, q, fun e => ?_, fun _ p hp => ?_⟩)
      · rw [← r.length] at e
        rw [cutD_all _ _ _ e] at h3
        exact h3.here R3 (.tup q r)
      · obtain ⟨R4, st4, q4⟩ := R3.newT hp r.cut
        exact h3.fin R4 st4 q4
    · split at h3
      · rename_i hz
        obtain rfl := rx3.str
        exact .inr (.inr ⟨_, rfl, hz, h3.here R3 (.str _)⟩)
      · exact h3.not_bad.elim
    · cases rx3 with
      | val rx3 =>
        obtain ⟨a, rfl, q⟩ := rx3
        refine .inl ⟨_, _, rfl, q.sq, fun p hp => ?_⟩
        rw [cutV_ints]
        obtain ⟨G4, R4, st4, q4⟩ := R3.newL hp (RpAll.ints (cutI _ lo hi))
        exact h3.fin R4 st4 q4
    · exact h3.not_bad.elim⟩⟩⟩
theorem CallR.or {f : Value} {r r' : List V → Hp → VK → Prop} (h : CallR X f r) (h' : CallR X f r') : CallR X f (fun xs H Q => r xs H Q ∨ r' xs H Q) := by
  intro pins s σ H xs us Q I rx q
  rcases q with q | q
  · exact h pins s σ H xs us Q I rx q
  · exact h' pins s σ H xs us Q I rx q
theorem ce_callB {id : String} {r : List V → Hp → VK → Prop} {p : List SV → Store → Rs SV} {x : Str} {q : Pos} {e : Expr} {es : List Expr} {m : AM} (hc : CallR X (.builtin id) r) (hp : PN (.of X) r p) (hg : Gl X x) (hm : X.mg x = none) (hv : bootBuiltins x = some (.builtin id)) (ha : CAV X W O (e :: es) m)
    (hn : x ≠ "__name__" := by decide) (hdb : (x == ("__debug__" : Str)) = false := by decide)
    (he : starEach (e :: es) X.env = (false, eval e X.env) :: starEach es X.env := by rfl) (hpl : (backTo pos (starEach es X.env)).any (·.1) = false := by rfl) : CE X W O (.Call (.Name x q) (e :: es) [] pos) (eA p m) :=
  peI (pe_callB hc hg hm hv ha hn hdb he hpl) fun σ H Q ⟨fr, S, G, R, h⟩ => ⟨fr, S, G, R, h.split fun xs S1 us H1 G1 R1 st1 rs h1 => hp R1 rs h1⟩
theorem ce_callTy {T : String} {r : List V → Hp → VK → Prop} {p : List SV → Store → Rs SV} {x : Str} {q : Pos} {e : Expr} {es : List Expr} {m : AM} (hc : CallR X (.type T) r) (hp : PN (.of X) r p) (hg : Gl X x) (hm : X.mg x = none) (hv : bootBuiltins x = some (.type T)) (ha : CAV X W O (e :: es) m)
    (hn : x ≠ "__name__" := by decide) (hdb : (x == ("__debug__" : Str)) = false := by decide)
    (he : starEach (e :: es) X.env = (false, eval e X.env) :: starEach es X.env := by rfl) (hpl : (backTo pos (starEach es X.env)).any (·.1) = false := by rfl) : CE X W O (.Call (.Name x q) (e :: es) [] pos) (eA p m) :=
  peI (pe_callTy hc hg hm hv ha hn hdb he hpl) fun σ H Q ⟨fr, S, G, R, h⟩ => ⟨fr, S, G, R, h.split fun xs S1 us H1 G1 R1 st1 rs h1 => hp R1 rs h1⟩
end
theorem RpVs.one {M : Mo} {G : Gh} {H : Hp} {x : SV} {us : List V} (r : RpVs M G H [x] us) : ∃ u, us = [u] ∧ RpV M G H x u := by
  cases r with
  | cons q t => cases t; exact ⟨_, rfl, q⟩
theorem RpVs.two {M : Mo} {G : Gh} {H : Hp} {x y : SV} {us : List V} (r : RpVs M G H [x, y] us) : ∃ u v, us = [u, v] ∧ RpV M G H x u ∧ RpV M G H y v := by
  cases r with
  | cons q t =>
    cases t with
    | cons q' t => cases t; exact ⟨_, _, rfl, q, q'⟩
theorem RpSs.one {M : Mo} {G : Gh} {H : Hp} {x : SV} {us : List V} (r : RpSs M G H [x] us) : ∃ u, us = [u] ∧ RpS M G H x u := by
  cases r with
  | cons q t => cases t; exact ⟨_, rfl, q⟩
theorem RpSs.two {M : Mo} {G : Gh} {H : Hp} {x y : SV} {us : List V} (r : RpSs M G H [x, y] us) : ∃ u v, us = [u, v] ∧ RpS M G H x u ∧ RpS M G H y v := by
  cases r with
  | cons q t =>
    cases t with
    | cons q' t => cases t; exact ⟨_, _, rfl, q, q'⟩
def lenV : List SV → Store → Rs SV
  | [.d (.list ds)], S => .ok (.d (.int ds.length)) S
  | [.d (.tuple ds)], S => .ok (.d (.int ds.length)) S
  | [.d (.str z)], S => if z.length ≤ sizeLine then .ok (.d (.int z.length)) S else .bad
  | [.obj r], S => match S[r]? with
    | some (.lst xs) => .ok (.d (.int xs.length)) S
    | _ => .bad
  | _, _ => .bad
theorem p_len {M : Mo} : PN M (fun xs H Q => ∃ x n, xs = [x] ∧ LenV M.K x H n ∧ Q (.int n) H) lenV := by
  intro W O σ H fr S G xs us Q R rs h
  unfold lenV at h
  split at h
  · obtain ⟨u, rfl, ru⟩ := rs.one
    obtain ⟨_, _, rfl, q, r⟩ := ru.lst
    rw [r.length] at h
    exact ⟨_, _, rfl, .inl ⟨_, SqL.of q, rfl⟩, h.here R (.int _)⟩
  · obtain ⟨u, rfl, ru⟩ := rs.one
    obtain ⟨_, _, rfl, q, r⟩ := ru.tup
    rw [r.length] at h
    exact ⟨_, _, rfl, .inr ⟨_, q, rfl⟩, h.here R (.int _)⟩
  · split at h
    · rename_i hz
      obtain ⟨u, rfl, ru⟩ := rs.one
      obtain rfl := ru.str
      exact ⟨_, _, rfl, ⟨hz, rfl⟩, h.here R (.int _)⟩
    · exact h.not_bad.elim
  · split at h
    · rename_i hs
      obtain ⟨u, rfl, ru⟩ := rs.one
      obtain ⟨a, rfl, ⟨vs, e, rv⟩, _⟩ := R.base.store_at hs ru.obj
      rw [show _ = vs.length from Paired.length rv] at h
      exact ⟨_, _, rfl, .inl ⟨_, SqL.of e, rfl⟩, h.here R (.int _)⟩
    · exact h.not_bad.elim
  · exact h.not_bad.elim
def intV : List SV → Store → Rs SV
  | [.d (.int i)], S => .ok (.d (.int i)) S
  | [.d (.bool b)], S => .ok (.d (.int (if b then 1 else 0))) S
  | [.d (.str z)], S => match PySem.intText? z with
    | some n => if z.length ≤ 640 then .ok (.d (.int n)) S else .bad
    | none => .bad
  | _, _ => .bad
def intR : List V → Hp → VK → Prop := fun xs H Q => ((∃ i, xs = [.int i] ∧ Q (.int i) H) ∨ ∃ k, xs = [.bl k] ∧ Q (.int (if k then 1 else 0)) H) ∨ ∃ a n, xs = [.str a] ∧ PySem.intText? a = some n ∧ a.length ≤ 640 ∧ Q (.int n) H
theorem call_intR {X : Cx} : CallR X (.type "int") intR := CallR.or call_int1 call_int_str
theorem p_int {M : Mo} : PN M intR intV := by
  intro W O σ H fr S G xs us Q R rs h
  unfold intV at h
  split at h
  · obtain ⟨u, rfl, ru⟩ := rs.one
    obtain rfl := ru.int
    exact .inl (.inl ⟨_, rfl, h.here R (.int _)⟩)
  · obtain ⟨u, rfl, ru⟩ := rs.one
    obtain rfl := ru.bl
    exact .inl (.inr ⟨_, rfl, h.here R (.int _)⟩)
  · split at h
    · rename_i hn
      split at h
      · rename_i hz
        obtain ⟨u, rfl, ru⟩ := rs.one
        obtain rfl := ru.str
        exact .inr ⟨_, _, rfl, hn, hz, h.here R (.int _)⟩
      · exact h.not_bad.elim
    · exact h.not_bad.elim
  · exact h.not_bad.elim
def absI : List SV → Store → Rs SV
  | [.d (.int i)], S => .ok (.d (.int (if i < 0 then -i else i))) S
  | _, _ => .bad
theorem p_abs {M : Mo} : PN M (fun xs H Q => ∃ i, xs = [.int i] ∧ Q (.int (if i < 0 then -i else i)) H) absI := by
  intro W O σ H fr S G xs us Q R rs h
  unfold absI at h
  split at h
  · obtain ⟨u, rfl, ru⟩ := rs.one
    obtain rfl := ru.int
    exact ⟨_, rfl, h.here R (.int _)⟩
  · exact h.not_bad.elim
def tupleV : List SV → Store → Rs SV
  | [.d (.list ds)], S => .ok (.d (.tuple ds)) S
  | [.d (.tuple ds)], S => .ok (.d (.tuple ds)) S
  | _, _ => .bad
theorem p_tuple {M : Mo} : PN M (fun xs H Q => ∃ p ys, xs = [.ref p] ∧ ((SqL M.K H p ys ∧ ∀ l, H l = none → Q (.ref l) (upd H l (.tup ys))) ∨ (SqT M.K H p ys ∧ Q (.ref p) H))) tupleV := by
  intro W O σ H fr S G xs us Q R rs h
  unfold tupleV at h
  split at h
  · obtain ⟨u, rfl, ru⟩ := rs.one
    obtain ⟨_, _, rfl, q, r⟩ := ru.lst
    refine ⟨_, _, rfl, .inl ⟨SqL.of q, fun p hp => ?_⟩⟩
    obtain ⟨R2, st2, q2⟩ := R.newT hp r
    exact h.fin R2 st2 q2
  · obtain ⟨u, rfl, ru⟩ := rs.one
    obtain ⟨_, _, rfl, q, r⟩ := ru.tup
    exact ⟨_, _, rfl, .inr ⟨q, h.here R (.tup q r)⟩⟩
  · exact h.not_bad.elim
def listV : List SV → Store → Rs SV
  | [.d (.list ds)], S => .ok (.d (.list ds)) S
  | [.d (.tuple ds)], S => .ok (.d (.list ds)) S
  | _, _ => .bad
theorem p_list {M : Mo} : PN M (fun xs H Q => ∃ p ys, xs = [.ref p] ∧ (SqL M.K H p ys ∨ SqT M.K H p ys) ∧ ∀ l, H l = none → Q (.ref l) (upd H l (.lst ys))) listV := by
  intro W O σ H fr S G xs us Q R rs h
  unfold listV at h
  split at h
  · obtain ⟨u, rfl, ru⟩ := rs.one
    obtain ⟨_, _, rfl, q, r⟩ := ru.lst
    refine ⟨_, _, rfl, .inl (SqL.of q), fun p hp => ?_⟩
    obtain ⟨G2, R2, st2, q2⟩ := R.newL hp r
    exact h.fin R2 st2 q2
  · obtain ⟨u, rfl, ru⟩ := rs.one
    obtain ⟨_, _, rfl, q, r⟩ := ru.tup
    refine ⟨_, _, rfl, .inr q, fun p hp => ?_⟩
    obtain ⟨G2, R2, st2, q2⟩ := R.newL hp r
    exact h.fin R2 st2 q2
  · exact h.not_bad.elim
def strV : List SV → Store → Rs SV
  | [.d (.int i)], S => if i.natAbs.log2 < 1920 then .ok (.d (.str (toString i))) S else .bad
  | [.d (.str z)], S => .ok (.d (.str z)) S
  | _, _ => .bad
def reprOk (d : PyData) : Bool := d.showable && !d.hasDict && decide (d.depth ≤ 180) && decide (d.shown.length ≤ sizeLine)
def ownL (fr : Fr) (i : Nat) : Option (List PyData) := match fr[i]? with
  | some (some (.d (.list ds))) => some ds
  | _ => none
theorem ownL_some {fr : Fr} {i : Nat} {ds : List PyData} (h : ownL fr i = some ds) : fr[i]? = some (some (.d (.list ds))) := by
  unfold ownL at h
  split at h
  · rename_i e
    cases h
    exact e
  · cases h
def eP (i : Nat) : EM := fun fr S => match ownL fr i with
  | some ds => .ok (.d (.list ds)) S
  | none => .bad
theorem cv_own {X : Cx} {W : WX} {O : Own} {pos : Pos} (i : Nat) {x : Str} (ho : (O[i]? == some true) = true := by rfl) (hN : X.N[i]? = some x := by rfl) (hv : Vis X.env.scope x := by first | exact Or.inl rfl | exact Or.inr (Or.inl rfl) | exact Or.inr (Or.inr rfl)) (hd : (x == ("__debug__" : Str)) = false := by decide)
    (hcd : (x == ("__classdict__" : Str)) = false := by decide) : CV X W O (.Name x pos) (eP i) := by
  refine peI (pe_var hN hv hd hcd) fun σ H Q ⟨fr, S, G, R, p⟩ => ?_
  have ho' : O.has i := by simpa [Own.has] using ho
  unfold eP at p
  split at p
  · rename_i ds hds
    obtain ⟨u, h1, h2, _⟩ := R.slot i _ (ownL_some hds)
    obtain ⟨a, e, nf, nr, h0, c⟩ := h2 ho'
    subst e
    refine ⟨_, h1, p.here R ?_⟩
    rcases c with ⟨es, xs, e, q, r⟩ | ⟨_, _, e, _⟩ | ⟨_, _, e, _⟩
    · cases e
      exact .own nr q r
    · cases e
    · cases e
  · exact p.not_bad.elim
end PD
namespace PD
open PySem PySem.Spec PyProof.Rows L2
def truthV : SV → Store → Option Bool
  | .d .none, _ => some false
  | .d (.bool b), _ => some b
  | .d (.int i), _ => some (i != 0)
  | .d (.str z), _ => if z.length ≤ sizeLine then some ((z.length : Int) != 0) else none
  | .d (.list ds), _ => some !ds.isEmpty
  | .d (.tuple ds), _ => some !ds.isEmpty
  | .obj r, S => match S[r]? with
    | some (.lst xs) => some !xs.isEmpty
    | _ => none
  | _, _ => none
def ofO {α : Type} : Option α → Store → Rs α
  | some a, S => .ok a S
  | none, _ => .bad
def bTr (m : EM) : TMt := fun fr S => (m fr S).bind fun x S1 => ofO (truthV x S1) S1
def boolV : SV → Option Bool
  | .d (.bool b) => some b
  | _ => none
def bB (m : EM) : TMt := fun fr S => (m fr S).bind fun x S1 => ofO (boolV x) S1
def bAnd (a b : TMt) : TMt := fun fr S => (a fr S).bind fun c S1 => if c = true then b fr S1 else .ok false S1
def bOr (a b : TMt) : TMt := fun fr S => (a fr S).bind fun c S1 => if c = true then .ok true S1 else b fr S1
def bNot (a : TMt) : TMt := fun fr S => (a fr S).bind fun c S1 => .ok (!c) S1
def eIf (c : TMt) (a b : EM) : EM := fun fr S => (c fr S).bind fun k S1 => if k = true then a fr S1 else b fr S1
def eAnd (a b : EM) : EM := fun fr S => (a fr S).bind fun x S1 => match boolV x with
  | some c => if c = true then b fr S1 else .ok (.d (.bool false)) S1
  | none => .bad
def eOr (a b : EM) : EM := fun fr S => (a fr S).bind fun x S1 => match boolV x with
  | some c => if c = true then .ok (.d (.bool true)) S1 else b fr S1
  | none => .bad
def eNot (a : EM) : EM := fun fr S => (a fr S).bind fun x S1 => match boolV x with
  | some c => .ok (.d (.bool !c)) S1
  | none => .bad
theorem isEmpty_all {M : Mo} {F : Addr → Prop} {H : Hp} {ds : List PyData} {vs : List V} (r : RpAll M F H ds vs) : ds.isEmpty = vs.isEmpty := by cases r <;> rfl
theorem isEmpty_ss {M : Mo} {G : Gh} {H : Hp} {ds : List SV} {vs : List V} (r : RpSs M G H ds vs) : ds.isEmpty = vs.isEmpty := by cases r <;> rfl
theorem tru_of {M : Mo} {O : Own} {σ : L2.St} {H : Hp} {fr : Fr} {S : Store} {G : Gh} {x : SV} {u : V} {k : Bool} (R : Rel M O σ H fr S G) (r : RpV M G H x u) (h : truthV x S = some k) : TruV M.K u H k := by
  unfold truthV at h
  split at h
  · obtain rfl := r.non; exact (Option.some.inj h).symm
  · obtain rfl := r.bl; exact (Option.some.inj h).symm
  · obtain rfl := r.int; exact (Option.some.inj h).symm
  · obtain rfl := r.str
    split at h
    · rename_i hz; exact ⟨hz, (Option.some.inj h).symm⟩
    · cases h
  · obtain ⟨_, _, rfl, q, rr⟩ := r.lst
    exact .inl ⟨_, SqL.of q, by rw [← isEmpty_all rr]; exact (Option.some.inj h).symm⟩
  · obtain ⟨_, _, rfl, q, rr⟩ := r.tup
    exact .inr (.inl ⟨_, q, by rw [← isEmpty_all rr]; exact (Option.some.inj h).symm⟩)
  · split at h
    · rename_i hs
      obtain ⟨a, rfl, ⟨vs, e, rv⟩, _⟩ := R.base.store_at hs r.obj
      exact .inl ⟨_, SqL.of e, by rw [← isEmpty_ss rv]; exact (Option.some.inj h).symm⟩
    · cases h
  · cases h
section
variable {X : Cx} {W : WX} {O : Own} {pos : Pos} {a b : Expr} {rest : List Expr}
theorem boolV_rel {M : Mo} {G : Gh} {H : Hp} {x : SV} {u : V} {c : Bool} (r : RpS M G H x u) (h : boolV x = some c) : u = .bl c := by
  unfold boolV at h
  split at h
  · cases r
    rw [Option.some.inj h]
  · cases h
theorem bB_of {m : EM} {σ : L2.St} {H : Hp} {Q : Bool → Hp → Prop} (h : tT (.of X) W O (bB m) σ H Q) : tM (.of X) W O m σ H fun x H1 => ∃ c, x = .bl c ∧ Q c H1 := by
  obtain ⟨fr, S, G, R, h⟩ := h
  refine ⟨fr, S, G, R, h.split fun x S1 u H1 G1 R1 st1 rx h1 => ?_⟩
  cases e : boolV x with
  | none => rw [e] at h1; exact h1.not_bad.elim
  | some c =>
    rw [e] at h1
    exact ⟨c, boolV_rel rx e, h1.here R1 rfl⟩
theorem ct_truth {m : EM} (h : CV X W O a m) (he : ∀ whole, isTrue a X.env whole = (do let v ← whole; standAt a.pos; holding [v] (truthy v)) := by intro _; rfl) : CT X W O a (bTr m) :=
  ptI (pt_truth h he) fun σ H Q ⟨fr, S, G, R, h⟩ => ⟨fr, S, G, R, h.split fun x S1 u H1 G1 R1 st1 rx h1 => by
    cases e : truthV x S1 with
    | none => rw [e] at h1; exact h1.not_bad.elim
    | some k =>
      rw [e] at h1
      exact ⟨k, tru_of R1 rx e, h1.here R1 rfl⟩⟩
theorem ct_cmp {op : CmpOp} {r : R2} {p : SV → SV → Store → Rs SV} {ma mb : EM} (ho : OpR X (compareOp op) r) (hp : P2 (.of X) r p) (ha : CV X W O a ma) (hb : CV X W O b mb) (hm : behindInMarks op b = false) : CT X W O (.Compare a [op] [b] pos) (bB (e2 p ma mb)) :=
  ptI (pt_cmpR ho ha hb hm) fun σ H Q h => two hp (bB_of h)
theorem cw_or1 {m : TMt} (h : CT X W O a m) : CW X W O (.BoolOp .Or [a] pos) m := pw_or1 h
theorem cw_or {m n : TMt} (h : CT X W O a m) (h2 : CW X W O (.BoolOp .Or (b :: rest) pos) n) : CW X W O (.BoolOp .Or (a :: b :: rest) pos) (bOr m n) :=
  pwI (pw_or h h2) fun σ H Q ⟨fr, S, G, R, h⟩ => ⟨fr, S, G, R, h.split fun x S1 u H1 G1 R1 st1 rx h1 => by
    subst rx
    cases x with
    | false => exact ⟨fr, S1, G1, R1, by simpa using h1⟩
    | true => exact Pst.here (by simpa using h1) R1 rfl⟩
theorem ct_w {m : TMt} (h : CW X W O a m) : CT X W O a m := L2.PW.pt h
theorem ct_not {m : TMt} (h : CT X W O a m) : CT X W O (.UnaryOp .Not a pos) (bNot m) :=
  ptI (pt_not h) fun σ H Q ⟨fr, S, G, R, h⟩ => ⟨fr, S, G, R, h.split fun x S1 u H1 G1 R1 st1 rx h1 => by
    subst rx
    exact h1.here R1 rfl⟩
theorem ce_one {op} {m : EM} (h : CE X W O a m) : CE X W O (.BoolOp op [a] pos) m := pe_one h
theorem ce_and {ma mb : EM} (ha : CE X W O a ma) (hb : CE X W O (.BoolOp .And (b :: rest) pos) mb) : CE X W O (.BoolOp .And (a :: b :: rest) pos) (eAnd ma mb) :=
  peI (pe_and ha hb) fun σ H Q ⟨fr, S, G, R, h⟩ => ⟨fr, S, G, R, h.split fun x S1 u H1 G1 R1 st1 rx h1 => by
    cases e : boolV x with
    | none => rw [e] at h1; exact h1.not_bad.elim
    | some c =>
      rw [e] at h1
      refine ⟨c, boolV_rel rx e, ?_⟩
      cases c with
      | true => simpa using ⟨fr, S1, G1, R1, by simpa using h1⟩
      | false =>
        rw [if_neg Bool.false_ne_true]
        exact Pst.here (by simpa using h1) R1 (Rp.bl false)⟩
theorem ce_not {ma : EM} (ha : CE X W O a ma) : CE X W O (.UnaryOp .Not a pos) (eNot ma) :=
  peI (pe_not ha) fun σ H Q ⟨fr, S, G, R, h⟩ => ⟨fr, S, G, R, h.split fun x S1 u H1 G1 R1 st1 rx h1 => by
    cases e : boolV x with
    | none => rw [e] at h1; exact h1.not_bad.elim
    | some c =>
      rw [e] at h1
      exact ⟨c, boolV_rel rx e, h1.here R1 (Rp.bl _)⟩⟩
def eChain (p q : SV → SV → Store → Rs SV) (a b c : EM) : EM := fun fr S => (a fr S).bind fun x S1 => (b fr S1).bind fun y S2 => (p x y S2).bind fun z S3 => match boolV z with
  | some k => if k = true then (c fr S3).bind fun w S4 => q y w S4 else .ok (.d (.bool false)) S3
  | none => .bad
theorem chain_of {c : Expr} {r r' : R2} {p q : SV → SV → Store → Rs SV} {ma mb mc : EM} (hp : P2 (.of X) r p) (hq : P2 (.of X) r' q) {σ : L2.St} {H : Hp} {Q : VK} (h : tM (.of X) W O (eChain p q ma mb mc) σ H Q) :
    tChain r r' (tV (.of X) W O ma) (tV (.of X) W O mb) (tV (.of X) W O mc) σ H Q := by
  obtain ⟨fr, S, G, R, h⟩ := h
  refine ⟨fr, S, G, R, h.split fun x S1 u H1 G1 R1 st1 rx h1 => ⟨fr, S1, G1, R1, h1.split fun y S2 v H2 G2 R2 st2 ry h2 => hp (W := W) R2 (rx.step R1.base st2) ry (h2.split fun z S3 w H3 G3 R3 st3 rz h3 => ?_)⟩⟩
  cases e : boolV z with
  | none => rw [e] at h3; exact h3.not_bad.elim
  | some k =>
    rw [e] at h3
    refine ⟨k, boolV_rel rz e, ?_⟩
    cases k with
    | true =>
      rw [if_pos rfl]
      exact ⟨fr, S3, G3, R3, Pst.split (f := fun w S4 => q y w S4) (by simpa using h3) fun w' S4 w2 H4 G4 R4 st4 rw4 h4 => hq R4 (ry.step R2.base (st3.trans st4)) rw4 h4⟩
    | false =>
      rw [if_neg Bool.false_ne_true]
      exact Pst.here (by simpa using h3) R3 (Rp.bl false)
end
section
variable {X : Cx} {W : WX} {O : Own} {pos : Pos} {a b c : Expr}
theorem ce_chain {op op' : CmpOp} {r r' : R2} {p q : SV → SV → Store → Rs SV} {ma mb mc : EM} (ho : OpR X (compareOp op) r) (ho' : OpR X (compareOp op') r') (hp : P2 (.of X) r p) (hq : P2 (.of X) r' q) (ha : CV X W O a ma) (hb : CV X W O b mb) (hc : CV X W O c mc)
    (hm : lastMarks [op, op'] [b, c] = false := by with_unfolding_all rfl) : CE X W O (.Compare a [op, op'] [b, c] pos) (eChain p q ma mb mc) :=
  peI (pe_chain ho ho' ha hb hc hm) fun σ H Q h => chain_of (c := c) hp hq h
theorem ct_chain {op op' : CmpOp} {r r' : R2} {p q : SV → SV → Store → Rs SV} {ma mb mc : EM} (ho : OpR X (compareOp op) r) (ho' : OpR X (compareOp op') r') (hp : P2 (.of X) r p) (hq : P2 (.of X) r' q) (ha : CV X W O a ma) (hb : CV X W O b mb) (hc : CV X W O c mc)
    (hm : lastMarks [op, op'] [b, c] = false := by with_unfolding_all rfl) : CT X W O (.Compare a [op, op'] [b, c] pos) (bB (eChain p q ma mb mc)) :=
  ptI (pt_chain ho ho' ha hb hc hm) fun σ H Q h => chain_of (c := c) hp hq (bB_of h)
end
inductive SR where
  | nx (fr : Fr) (S : Store)
  | bk (fr : Fr) (S : Store)
  | ct (fr : Fr) (S : Store)
  | rt (v : SV) (S : Store)
  | exc (x : Exc) (fr : Fr) (S : Store)
  | bad
abbrev SM := Fr → Store → SR
def Rs.toS {α : Type} (fr : Fr) : Rs α → (α → Store → SR) → SR
  | .ok a S, f => f a S
  | .exc x S, _ => .exc x fr S
  | .bad, _ => .bad
def SR.next : SR → (Fr → Store → SR) → SR
  | .nx fr S, f => f fr S
  | r, _ => r
structure SPst (M : Mo) (W : WX) (L O' : Own) (H : Hp) (G : Gh) (r : SR) (D : Ends) : Prop where
  good : r ≠ .bad
  nx : ∀ fr' S', r = .nx fr' S' → ∀ σ' H' G', Rel M O' σ' H' fr' S' G' → Adv G H G' H' → D.nx σ' H'
  bk : ∀ fr' S', r = .bk fr' S' → ∀ σ' H' G', Rel M L σ' H' fr' S' G' → Adv G H G' H' → D.bk σ' H'
  ct : ∀ fr' S', r = .ct fr' S' → ∀ σ' H' G', Rel M L σ' H' fr' S' G' → Adv G H G' H' → D.ct σ' H'
  rt : ∀ v S', r = .rt v S' → ∀ u H' G', Base M H' S' G' → Adv G H G' H' → RpS M G' H' v u → D.rt u H'
  exc : ∀ x fr' S', r = .exc x fr' S' → ∀ σ' H' G' cls d, Rel M [] σ' H' fr' S' G' → Adv G H G' H' → XRep M G' H' x cls d → W cls d σ' H'
def tS (M : Mo) (W : WX) (L O O' : Own) (m : SM) : TS := fun D σ H => ∃ fr S G, Rel M O σ H fr S G ∧ SPst M W L O' H G (m fr S) D
def CS (X : Cx) (W : WX) (L O : Own) (st : Stmt) (m : SM) (O' : Own) : Prop := PS X st (tS (.of X) W L O O' m)
def CSs (X : Cx) (W : WX) (L O : Own) (st : List Stmt) (m : SM) (O' : Own) : Prop := PSs X st (tS (.of X) W L O O' m)
theorem psI {X : Cx} {e : Stmt} {t t' : TS} (h : PS X e t) (i : ∀ D σ H, t' D σ H → t D σ H) : PS X e t' := ⟨fun pins s σ H D I q => h.run pins s σ H D I (i D σ H q)⟩
theorem pssI {X : Cx} {e : List Stmt} {t t' : TS} (h : PSs X e t) (i : ∀ D σ H, t' D σ H → t D σ H) : PSs X e t' := ⟨fun pins s σ H D I q => h.run pins s σ H D I (i D σ H q)⟩
def Own.le (O' O : Own) : Bool := (List.range O'.length).all fun i => !(O'[i]? == some true) || (O[i]? == some true)
theorem Own.le_has {O' O : Own} (h : Own.le O' O = true) (i : Nat) (hi : O'.has i) : O.has i := by
  unfold Own.has at hi ⊢
  have hl : i < O'.length := (List.getElem?_eq_some_iff.mp hi).1
  unfold Own.le at h
  rw [List.all_eq_true] at h
  have q := h i (List.mem_range.mpr hl)
  rw [hi] at q
  simpa using q
section
variable {M : Mo} {W : WX} {L O O' : Own} {σ : L2.St} {H : Hp} {fr : Fr} {S : Store} {G : Gh} {D : Ends}
theorem SPst.expr {α β : Type} {r : Rs α} {f : α → Store → SR} {rel : Gh → Hp → α → β → Prop} {Q : β → Hp → Prop} (R : Rel M O σ H fr S G) (h : SPst M W L O' H G (r.toS fr f) D)
    (next : ∀ (z : α) (S1 : Store) (u : β) (H1 : Hp) (G1 : Gh), Rel M O σ H1 fr S1 G1 → Stp G H G1 H1 → Adv G H G1 H1 → rel G1 H1 z u → SPst M W L O' H1 G1 (f z S1) D → Q u H1) : Pst M W O σ H fr G r rel Q := by
  refine ⟨fun e => h.good (by rw [e]; rfl), fun z S1 e u H1 G1 R1 st1 q => ?_, fun x S1 e H1 G1 cls d R1 st1 q => ?_⟩
  · have hb : r.toS fr f = f z S1 := by rw [e]; rfl
    rw [hb] at h
    have a := R.base.adv st1
    exact next z S1 u H1 G1 R1 st1 a q ⟨h.good, fun fr' S' e' σ' H' G' R' a' => h.nx fr' S' e' σ' H' G' R' (a.trans a'), fun fr' S' e' σ' H' G' R' a' => h.bk fr' S' e' σ' H' G' R' (a.trans a'),
      fun fr' S' e' σ' H' G' R' a' => h.ct fr' S' e' σ' H' G' R' (a.trans a'), fun v S' e' u H' G' B' a' r' => h.rt v S' e' u H' G' B' (a.trans a') r', fun x fr' S' e' σ' H' G' cls d R' a' r' => h.exc x fr' S' e' σ' H' G' cls d R' (a.trans a') r'⟩
  · have a := R.base.adv st1
    obtain ⟨G2, R2, a2⟩ := R1.freeze [] (fun i h => by simp [Own.has] at h)
    refine h.exc x fr S1 (by rw [e]; rfl) σ H1 G2 cls d R2 (a.trans a2) ?_
    obtain ⟨ca, h1, h2, h3⟩ := q
    refine ⟨ca, h1, h2, ?_⟩
    rcases h3 with h3 | ⟨fs, da, vs, e1, e2, e3, e4⟩
    · exact .inl h3
    · exact .inr ⟨fs, da, vs, e1, e2, e3, RpF.keep a2.keeps a2.pre e4⟩
theorem SPst.on {r : SR} (h : SPst M W L O' H G r D) {H1 : Hp} {G1 : Gh} (a : Adv G H G1 H1) : SPst M W L O' H1 G1 r D :=
  ⟨h.good, fun fr' S' e' σ' H' G' R' a' => h.nx fr' S' e' σ' H' G' R' (a.trans a'), fun fr' S' e' σ' H' G' R' a' => h.bk fr' S' e' σ' H' G' R' (a.trans a'),
      fun fr' S' e' σ' H' G' R' a' => h.ct fr' S' e' σ' H' G' R' (a.trans a'), fun v S' e' u H' G' B' a' r' => h.rt v S' e' u H' G' B' (a.trans a') r', fun x fr' S' e' σ' H' G' cls d R' a' r' => h.exc x fr' S' e' σ' H' G' cls d R' (a.trans a') r'⟩
theorem SPst.split {r : SR} {f : Fr → Store → SR} {O2 : Own} {N : L2.St → Hp → Prop} (h : SPst M W L O2 H G (r.next f) D)
    (next : ∀ (fr1 : Fr) (S1 : Store) (σ1 : L2.St) (H1 : Hp) (G1 : Gh), Rel M O' σ1 H1 fr1 S1 G1 → SPst M W L O2 H1 G1 (f fr1 S1) D → N σ1 H1) : SPst M W L O' H G r { D with nx := N } := by
  refine ⟨fun e => h.good (by rw [e]; rfl), fun fr1 S1 e σ1 H1 G1 R1 a1 => ?_, fun fr' S' e => h.bk fr' S' (by rw [e]; rfl), fun fr' S' e => h.ct fr' S' (by rw [e]; rfl), fun v S' e => h.rt v S' (by rw [e]; rfl), fun x fr' S' e => h.exc x fr' S' (by rw [e]; rfl)⟩
  have hb : r.next f = f fr1 S1 := by rw [e]; rfl
  rw [hb] at h
  exact next fr1 S1 σ1 H1 G1 R1 (h.on a1)
end
def sNx : SM := fun fr S => .nx fr S
def sSeq (m n : SM) : SM := fun fr S => (m fr S).next fun fr1 S1 => n fr1 S1
def sIf (c : TMt) (m n : SM) : SM := fun fr S => (c fr S).toS fr fun k S1 => if k = true then m fr S1 else n fr S1
def sRet (m : EM) : SM := fun fr S => (m fr S).toS fr fun v S1 => .rt v S1
def sDrop (m : EM) : SM := fun fr S => (m fr S).toS fr fun _ S1 => .nx fr S1
section
variable {X : Cx} {W : WX} {L O O1 O' : Own} {pos : Pos}
theorem css_nil : CSs X W L O [] sNx O := pssI pss_nil fun D σ H ⟨fr, S, G, R, h⟩ => h.nx fr S rfl σ H G R Adv.refl
theorem css_one {st : Stmt} {m : SM} (h : CS X W L O st m O') : CSs X W L O [st] m O' := pss_one h
theorem css_cons {st : Stmt} {rest : List Stmt} {m n : SM} (h : CS X W L O st m O1) (hr : CSs X W L O1 rest n O') : CSs X W L O (st :: rest) (sSeq m n) O' :=
  pssI (pss_cons h hr) fun D σ H ⟨fr, S, G, R, h⟩ => ⟨fr, S, G, R, h.split fun fr1 S1 σ1 H1 G1 R1 h1 => ⟨fr1, S1, G1, R1, h1⟩⟩
theorem css_let (O1 : Own) {rest : List Stmt} {m : SM} (hr : CSs X W L O1 rest m O') (hle : Own.le O1 O = true := by rfl) : CSs X W L O rest m O' :=
  pssI hr fun D σ H ⟨fr, S, G, R, h⟩ => by
    obtain ⟨G1, R1, a1⟩ := R.freeze O1 (Own.le_has hle)
    exact ⟨fr, S, G1, R1, h.on a1⟩
theorem cs_if {c : Expr} {a b : List Stmt} {mc : TMt} {m n : SM} (hc : CT X W O c mc) (ha : CSs X W L O a m O') (hb : CSs X W L O b n O') : CS X W L O (.If c a b pos) (sIf mc m n) O' :=
  psI (ps_if hc ha hb) fun D σ H ⟨fr, S, G, R, h⟩ => ⟨fr, S, G, R, h.expr R fun k S1 u H1 G1 R1 st1 a1 e h1 => by
    subst e
    cases k with
    | true => simpa using ⟨fr, S1, G1, R1, by simpa using h1⟩
    | false => simpa using ⟨fr, S1, G1, R1, by simpa using h1⟩⟩
theorem cs_ret {e : Expr} {m : EM} (he : CE X W O e m) : CS X W L O (.Return (some e) pos) (sRet m) O' :=
  psI (ps_ret he) fun D σ H ⟨fr, S, G, R, h⟩ => ⟨fr, S, G, R, h.expr R fun v S1 u H1 G1 R1 st1 a1 r h1 => h1.rt v S1 rfl u H1 G1 R1.base Adv.refl r⟩
end
abbrev GM := SV → Fr → Option Fr
abbrev GMs := List PyData → Fr → Option Fr
def Out (ts : List Nat) (σ σ' : L2.St) : Prop := σ'.length = σ.length ∧ ∀ k, k ∉ ts → σ'[k]? = σ[k]?
theorem Out.refl {ts : List Nat} {σ : L2.St} : Out ts σ σ := ⟨rfl, fun _ _ => rfl⟩
theorem Out.app {ts us : List Nat} {σ σ1 σ2 : L2.St} (a : Out ts σ σ1) (b : Out us σ1 σ2) : Out (ts ++ us) σ σ2 :=
  ⟨b.1.trans a.1, fun k h => by
    rw [List.mem_append, not_or] at h
    rw [b.2 k h.2, a.2 k h.1]⟩
def tG (M : Mo) (O O' : Own) (ts : List Nat) (g : GM) : TG := fun u σ H Q => ∃ v fr S G fr', Rel M O σ H fr S G ∧ RpS M G H v u ∧ g v fr = some fr' ∧ ∀ σ', Rel M O' σ' H fr' S G → Out ts σ σ' → Q σ' H
def tGs (M : Mo) (O O' : Own) (ts : List Nat) (g : GMs) : TGs := fun us σ H Q => ∃ vs fr S G fr', Rel M O σ H fr S G ∧ RpAll M G.F H vs us ∧ g vs fr = some fr' ∧ ∀ σ', Rel M O' σ' H fr' S G → Out ts σ σ' → Q σ' H
def CG (X : Cx) (O : Own) (e : Expr) (g : GM) (O' : Own) (ts : List Nat) : Prop := PG X e (tG (.of X) O O' ts g)
def CGs (X : Cx) (O : Own) (e : List Expr) (g : GMs) (O' : Own) (ts : List Nat) : Prop := PGs X e (tGs (.of X) O O' ts g)
theorem pgI {X : Cx} {e : Expr} {t t' : TG} (h : PG X e t) (i : ∀ u σ H Q, t' u σ H Q → t u σ H Q) : PG X e t' := by
  obtain ⟨f⟩ := h
  exact ⟨fun pins s σ H x u Q I r q => f pins s σ H x u Q I r (i x σ H Q q)⟩
theorem pgsI {X : Cx} {e : List Expr} {t t' : TGs} (h : PGs X e t) (i : ∀ u σ H Q, t' u σ H Q → t u σ H Q) : PGs X e t' := by
  obtain ⟨f⟩ := h
  exact ⟨fun pins s σ H x u Q I r q => f pins s σ H x u Q I r (i x σ H Q q)⟩
def gSet (i : Nat) : GM := fun v fr => if i < fr.length then some (fr.set i (some v)) else none
def ggNil : GMs := fun xs fr => match xs with
  | [] => some fr
  | _ => none
def ggCons (g : GM) (h : GMs) : GMs := fun xs fr => match xs with
  | x :: xs => (g (.d x) fr).bind fun fr1 => h xs fr1
  | _ => none
def ggTup (n : Nat) (h : GMs) : GM := fun v fr => match v with
  | .d (.tuple ds) => if ds.length = n then h ds fr else none
  | _ => none
section
variable {X : Cx} {O O1 O' : Own} {pos : Pos} {ts us : List Nat}
theorem cg_name (i : Nat) {x : Str} (hN : X.N.Nodup) (hi : X.N[i]? = some x := by rfl) (hx : Loc X.env.scope x := by first | exact Or.inl rfl | exact Or.inr rfl) (hf : X.fn x = true ∨ X.env.scope.names.lookup x = some .local := by first | exact .inl rfl | exact .inr rfl) : CG X O (.Name x pos) (gSet i) (O.set i false) [i] :=
  pgI (pg_name hN hi hx hf) fun u σ H Q ⟨v, fr, S, G, fr', R, r, e, k⟩ => by
    unfold gSet at e
    split at e
    · rename_i hl
      cases e
      refine k _ (R.store (by rw [← R.len]; exact hl) r) ⟨by simp, fun j hj => ?_⟩
      rw [List.getElem?_set_ne (fun z => hj (by rw [z]; exact List.mem_cons_self))]
    · cases e
theorem cgs_nil : CGs X O [] ggNil O [] := pgsI pgs_nil fun u σ H Q ⟨v, fr, S, G, fr', R, r, e, k⟩ => by
  cases r with
  | nil =>
    cases e
    exact ⟨rfl, k σ R Out.refl⟩
  | cons _ _ => cases e
theorem cgs_cons {e : Expr} {es : List Expr} {g : GM} {h : GMs} (h1 : CG X O e g O1 ts) (h2 : CGs X O1 es h O' us) (hs : (assignEach (e :: es) X.env).map (·.2) = assign e X.env :: (assignEach es X.env).map (·.2) := by rfl) :
    CGs X O (e :: es) (ggCons g h) O' (ts ++ us) :=
  pgsI (pgs_cons h1 h2 hs) fun u σ H Q ⟨v, fr, S, G, fr', R, r, e, k⟩ => by
    cases r with
    | nil => cases e
    | @cons d ds v vs r t =>
      cases q : g (.d d) fr with
      | none => simp [ggCons, q] at e
      | some fr1 =>
        have e' : h ds fr1 = some fr' := by simpa [ggCons, q] using e
        exact ⟨_, _, rfl, .d d, fr, S, G, fr1, R, r, q, fun σ1 R1 o1 => ⟨_, fr1, S, G, fr', R1, t, e', fun σ2 R2 o2 => k σ2 R2 (o1.app o2)⟩⟩
theorem cg_tup {es : List Expr} {k : Nat} {h : GMs} {n : Nat} (hc : X.calm = true) (h1 : CGs X O es h O' ts) (hn : (assignEach es X.env).length = n := by rfl) (hst : (assignEach es X.env).findIdx? (·.1) = none := by rfl) :
    CG X O (.Tuple es k pos) (ggTup n h) O' ts :=
  pgI (pg_tup hc h1 hn hst) fun u σ H Q ⟨v, fr, S, G, fr', R, r, e, k⟩ => by
    unfold ggTup at e
    split at e
    · split at e
      · rename_i hl
        cases r with
        | tup q rr => exact ⟨_, _, rfl, q, by rw [← rr.length]; exact hl, _, fr, S, G, fr', R, rr, e, k⟩
      · cases e
    · cases e
end
abbrev FM := Fr → Store → Rs (SV × Fr)
structure FPst (M : Mo) (W : WX) (O : Own) (σ : L2.St) (H : Hp) (G : Gh) (r : Rs (SV × Fr)) (fr : Fr) (Q : VK) : Prop where
  good : r ≠ .bad
  ok : ∀ v fr' S', r = .ok (v, fr') S' → ∀ u H' G', Rel M O σ H' fr' S' G' → Adv G H G' H' → RpS M G' H' v u → Q u H'
  exc : ∀ x S', r = .exc x S' → ∀ H' G' cls d, Rel M O σ H' fr S' G' → Adv G H G' H' → XRep M G' H' x cls d → W cls d σ H'
def tF (M : Mo) (W : WX) (O : Own) (m : FM) : TE := fun σ H Q => ∃ fr S G, Rel M O σ H fr S G ∧ FPst M W O σ H G (m fr S) fr Q
def CF (X : Cx) (W : WX) (O : Own) (e : Expr) (m : FM) : Prop := PE X e (tF (.of X) W O m)
def fE (m : EM) : FM := fun fr S => (m fr S).bind fun v S1 => .ok (v, fr) S1
theorem cf_of {X : Cx} {W : WX} {O : Own} {e : Expr} {m : EM} (h : CE X W O e m) : CF X W O e (fE m) :=
  peI h fun σ H Q ⟨fr, S, G, R, h⟩ => ⟨fr, S, G, R, fun e => h.good (by unfold fE; rw [e]; rfl), fun v S' e u H' G' R' st r => h.ok v fr S' (by unfold fE; rw [e]; rfl) u H' G' R' (R.base.adv st) r,
    fun x S' e H' G' cls d R' st r => h.exc x S' (by unfold fE; rw [e]; rfl) H' G' cls d R' (R.base.adv st) r⟩
def ofG : Option Fr → Store → SR
  | some fr, S => .nx fr S
  | none, _ => .bad
def sAsg (g : GM) (m : FM) : SM := fun fr S => (m fr S).toS fr fun p S1 => ofG (g p.1 p.2) S1
section
variable {X : Cx} {W : WX} {L O O' : Own} {pos : Pos} {ts : List Nat}
theorem SPst.expF {M : Mo} {σ : L2.St} {H : Hp} {fr : Fr} {G : Gh} {D : Ends} {r : Rs (SV × Fr)} {f : SV × Fr → Store → SR} {Q : VK} (h : SPst M W L O' H G (r.toS fr f) D)
    (next : ∀ (v : SV) (fr1 : Fr) (S1 : Store) (u : V) (H1 : Hp) (G1 : Gh), Rel M O σ H1 fr1 S1 G1 → RpS M G1 H1 v u → SPst M W L O' H1 G1 (f (v, fr1) S1) D → Q u H1) : FPst M W O σ H G r fr Q := by
  refine ⟨fun e => h.good (by rw [e]; rfl), fun v fr1 S1 e u H1 G1 R1 a1 q => ?_, fun x S1 e H1 G1 cls d R1 a1 q => ?_⟩
  · have hb : r.toS fr f = f (v, fr1) S1 := by rw [e]; rfl
    rw [hb] at h
    exact next v fr1 S1 u H1 G1 R1 q (h.on a1)
  · obtain ⟨G2, R2, a2⟩ := R1.freeze [] (fun i h => by simp [Own.has] at h)
    refine h.exc x fr S1 (by rw [e]; rfl) σ H1 G2 cls d R2 (a1.trans a2) ?_
    obtain ⟨ca, h1, h2, h3⟩ := q
    refine ⟨ca, h1, h2, ?_⟩
    rcases h3 with h3 | ⟨fs, da, vs, e1, e2, e3, e4⟩
    · exact .inl h3
    · exact .inr ⟨fs, da, vs, e1, e2, e3, RpF.keep a2.keeps a2.pre e4⟩
theorem cs_asg {tg e : Expr} {g : GM} {m : FM} (he : CF X W O e m) (hg : CG X O tg g O' ts) (hs : swapsWithSole [tg] e pos.line X.env = pure false := by rfl) (hw : swappedStores [tg] e X.env = pure none := by rfl)
    (h1 : (assignEach [tg] X.env).map (·.2) = [assign tg X.env] := by rfl) : CS X W L O (.Assign [tg] e pos) (sAsg g m) O' :=
  psI (ps_asg he hg hs hw h1) fun D σ H ⟨fr, S, G, R, h⟩ => ⟨fr, S, G, R, h.expF fun v fr1 S1 u H1 G1 R1 r h1 => by
    cases q : g v fr1 with
    | none => exact (h1.good (by simp [ofG, q])).elim
    | some fr2 => exact ⟨v, fr1, S1, G1, fr2, R1, r, q, fun σ2 R2 _ => h1.nx fr2 S1 (by simp [ofG, q]) σ2 H1 G1 R2 Adv.refl⟩⟩
theorem cs_set (i : Nat) {x : Str} {e : Expr} {m : EM} {pos' : Pos} (hN : X.N.Nodup) (he : CE X W O e m) (hi : X.N[i]? = some x := by rfl) (hx : Loc X.env.scope x := by first | exact Or.inl rfl | exact Or.inr rfl) (hs : swapsWith e (some (.Name x pos')) pos.line X.env = pure false := by rfl)
    (hf : X.fn x = true ∨ X.env.scope.names.lookup x = some .local := by first | exact .inl rfl | exact .inr rfl) : CS X W L O (.Assign [.Name x pos'] e pos) (sAsg (gSet i) (fE m)) (O.set i false) := by
  refine psI (ps_set hN hi hx (cf_of he) hs hf) fun D σ H ⟨fr, S, G, R, h⟩ => ⟨fr, S, G, R, h.expF fun v fr1 S1 u H1 G1 R1 r h1 => ?_⟩
  by_cases hl : i < fr1.length
  · exact h1.nx (fr1.set i (some v)) S1 (by simp [ofG, gSet, hl]) _ H1 G1 (R1.store (by rw [← R1.len]; exact hl) r) Adv.refl
  · exact (h1.good (by simp [ofG, gSet, hl])).elim
end
end PD
namespace PD
open PySem PySem.Spec PyProof.Rows L2 RZ
def SqB (K : PySem.W.Frag) (t : Bool) (H : Hp) (a : Addr) (xs : List V) : Prop := if t = true then SqT K H a xs else SqL K H a xs
def HasB (t : Bool) (h : Heap) (l : Addr) (its : Array Value) : Prop := if t = true then h.IsTuple l its else h.IsList l its
def IterB (t : Bool) (h : Heap) (I l : Addr) (k : Nat) : Prop := if t = true then h.IsTupleIter I l k else h.IsListIter I l k
def iterObj (t : Bool) (l : Addr) : Obj := if t = true then { cls := .type "tuple_iterator", data := .fields #[.ref l, .int 0 0] } else { cls := .type "list_iterator", data := .fields #[.ref l, .int 0 0] }
theorem sqB_has {X : Cx} {pins : List (Addr × Obj)} {σ : L2.St} {H : Hp} {s : Shared} {t : Bool} {a : Addr} {xs : List V} (I : Inv X pins σ H s) (h : SqB X.K t H a xs) : ∃ its : List Value, Vals xs its ∧ HasB t s.heap a its.toArray ∧ a < s.heap.objs.size := by
  cases t with
  | true =>
    obtain ⟨its, r, p, _⟩ := I.tuple (show SqT X.K H a xs from h)
    obtain ⟨o, ho, _⟩ := id p
    exact ⟨its, r, p, Heap.lt_size ho⟩
  | false =>
    obtain ⟨its, r, p, _⟩ := I.list (show SqL X.K H a xs from h)
    exact ⟨its, r, p.isList, p.lt⟩
theorem sqB_inj {X : Cx} {pins : List (Addr × Obj)} {σ : L2.St} {H : Hp} {s : Shared} {t : Bool} {a : Addr} {xs ys : List V} (I : Inv X pins σ H s) (h : SqB X.K t H a xs) (h' : SqB X.K t H a ys) : xs = ys := by
  cases t with
  | true => exact I.tuple_inj (show SqT X.K H a xs from h) h'
  | false => exact I.list_inj (show SqL X.K H a xs from h) h'
theorem iterB_obj {t : Bool} {h : Heap} {I l : Addr} {k : Nat} (q : IterB t h I l k) : ∃ o, h.get? I = some o ∧ ∀ v, o.data ≠ .cell v := by
  cases t with
  | true =>
    obtain ⟨o, e, _, d⟩ := (show h.IsTupleIter I l k from q)
    exact ⟨o, e, fun v z => by rw [d] at z; cases z⟩
  | false =>
    obtain ⟨o, e, _, d⟩ := (show h.IsListIter I l k from q)
    exact ⟨o, e, fun v z => by rw [d] at z; cases z⟩
theorem iterB_at {t : Bool} {h h' : Heap} {I l : Addr} {k : Nat} (q : IterB t h I l k) (e : ∀ o, h.get? I = some o → h'.get? I = some o) : IterB t h' I l k := by
  cases t with
  | true => exact (show h.IsTupleIter I l k from q).at e
  | false => exact (show h.IsListIter I l k from q).at e
theorem draws_B {prog : Program} {w : World} {A : Around} (hh : A.handled = none) (t : Bool) (I l : Addr) (hne : l ≠ I) (items : Array Value) :
    Draws prog w A I [I, l] items.size (fun i v => items[i]? = some v) (fun i h => IterB t h I l i ∧ HasB t h l items) := by
  cases t with
  | true => exact Draws.tuple hh I l hne items
  | false => exact Draws.list hh I l hne items
theorem begins_B (t : Bool) (l : Addr) (items : Array Value) : Begins (.ref l) (iterObj t l) fun h => HasB t h l items := by
  cases t with
  | true => exact begins_tuple l items
  | false => exact begins_list l items
theorem iterB_new {t : Bool} {h : Heap} {I l : Addr} (e : h.get? I = some (iterObj t l)) : IterB t h I l 0 := by
  cases t with
  | true => exact ⟨_, e, rfl, rfl⟩
  | false => exact ⟨_, e, rfl, rfl⟩
def ItzM (K : PySem.W.Frag) (t1 t2 : Bool) (a b : Addr) : It :=
  ⟨fun i H => ∃ (xs ys : List V) (x y : V), SqB K t1 H a xs ∧ SqB K t2 H b ys ∧ xs[i]? = some x ∧ ys[i]? = some y,
    fun i H v H' => ∃ T x y, v = .ref T ∧ H T = none ∧ H' = upd H T (.tup [x, y]) ∧ (∀ xs, SqB K t1 H a xs → xs[i]? = some x) ∧ ∀ ys, SqB K t2 H b ys → ys[i]? = some y,
    fun i H => ∃ xs ys : List V, SqB K t1 H a xs ∧ SqB K t2 H b ys ∧ i ≤ xs.length ∧ i ≤ ys.length ∧ (i = xs.length ∨ i = ys.length)⟩
structure Five (z TI TO i1 i2 a b : Addr) : Prop where
  sep : ZipSep2 z TI TO i1 i2 [i1, a] [i2, b]
  a1 : a ≠ i1
  b2 : b ≠ i2
theorem five_new {n a b : Nat} (ha : a < n) (hb : b < n) : Five (n + 4) (n + 2) (n + 3) n (n + 1) a b where
  sep := by
    have q : ∀ {x y : Nat}, x < y → x ≠ y ∧ y ≠ x := fun h => ⟨Nat.ne_of_lt h, Nat.ne_of_gt h⟩
    have l (k : Nat) : n < n + (k + 1) := by omega
    constructor
    · exact (q (show n + 2 < n + 4 by omega)).1
    · exact (q (show n + 3 < n + 4 by omega)).1
    · exact (q (show n + 2 < n + 3 by omega)).1
    · exact (q (show n < n + 2 by omega)).2
    · exact List.mem_cons_self
    · exact fun h => (List.mem_cons.mp h).elim (q (show n < n + 4 by omega)).2 fun h => (q (show a < n + 4 by omega)).2 (List.mem_singleton.mp h)
    · exact fun h => (List.mem_cons.mp h).elim (q (show n < n + 3 by omega)).2 fun h => (q (show a < n + 3 by omega)).2 (List.mem_singleton.mp h)
    · exact (q (show n + 1 < n + 2 by omega)).2
    · exact List.mem_cons_self
    · exact fun h => (List.mem_cons.mp h).elim (q (show n + 1 < n + 4 by omega)).2 fun h => (q (show b < n + 4 by omega)).2 (List.mem_singleton.mp h)
    · exact fun h => (List.mem_cons.mp h).elim (q (show n + 1 < n + 3 by omega)).2 fun h => (q (show b < n + 3 by omega)).2 (List.mem_singleton.mp h)
    · exact fun h => (List.mem_cons.mp h).elim (q (show n < n + 1 by omega)).1 fun h => (q (show b < n by omega)).2 (List.mem_singleton.mp h)
    · exact fun h => (List.mem_cons.mp h).elim (q (show n < n + 1 by omega)).2 fun h => (q (show a < n + 1 by omega)).2 (List.mem_singleton.mp h)
  a1 := by show a ≠ n; omega
  b2 := by show b ≠ n + 1; omega
theorem turn_zipM {P : Program} {w : World} {K : PySem.W.Frag} {elts : List Expr} {kk : Nat} {tpos : Pos} {t1 t2 : Bool} {a b z TI TO i1 i2 : Addr} (D : Five z TI TO i1 i2 a b) :
    Turn P w K (.Tuple elts kk tpos) (ItzM K t1 t2 a b) [z, TI, TO, i1, i2] z (fun i h => IsZip h z TI TO .none ∧ IsTupOf2 h TI (.ref i1) (.ref i2) ∧ (∃ x y, IsTupOf2 h TO x y) ∧ IterB t1 h i1 a i ∧ IterB t2 h i2 b i) where
  mem := by simp
  obj := fun i h st c hc => by
    obtain ⟨hz, hTI, ⟨x, y, hTO⟩, q1, q2⟩ := st
    have e' : c = z ∨ c = TI ∨ c = TO ∨ c = i1 ∨ c = i2 := by simpa using hc
    rcases e' with rfl | rfl | rfl | rfl | rfl
    · exact ⟨_, hz, fun v q => nomatch q⟩
    · exact ⟨_, hTI, fun v q => nomatch q⟩
    · exact ⟨_, hTO, fun v q => nomatch q⟩
    · exact iterB_obj q1
    · exact iterB_obj q2
  keep := fun i h h' st k => by
    obtain ⟨hz, hTI, ⟨x, y, hTO⟩, q1, q2⟩ := st
    exact ⟨k z (by simp) _ hz, k TI (by simp) _ hTI, ⟨x, y, k TO (by simp) _ hTO⟩, iterB_at q1 (k i1 (by simp)), iterB_at q2 (k i2 (by simp))⟩
  item := by
    intro X hP hw hK hc i pins s σ H E I hf st hg
    subst hP hw hK
    obtain ⟨hz, hTI, ⟨x0, y0, hTO⟩, q1, q2⟩ := st
    obtain ⟨xs, ys, x, y, hqx, hqy, hx, hy⟩ := hg
    obtain ⟨its, rv, p, _⟩ := sqB_has I hqx
    obtain ⟨its2, rv2, p2, _⟩ := sqB_has I hqy
    have l1 : i < its.length := by rw [← rv.length]; exact (List.getElem?_eq_some_iff.mp hx).1
    have l2 : i < its2.length := by rw [← rv2.length]; exact (List.getElem?_eq_some_iff.mp hy).1
    obtain ⟨u, hu, ru⟩ := rv.get hx
    obtain ⟨u2, hu2, ru2⟩ := rv2.get hy
    have hh : X.A.in1.handled = none := I.ok.hd hc
    have hzl : z < s.heap.objs.size := Heap.lt_size hz
    have S := D.sep
    refine wpAny_pyNext_zipD2_item S (draws_B hh t1 i1 a D.a1 its.toArray) (draws_B hh t2 i2 b D.b2 its2.toArray) hz hTI hTO ⟨q1, p⟩ ⟨q2, p2⟩ (by simpa using l1) (by simpa using l2) fun x1 x2 h' tk y1 y2 z' TO' n1 n2 hT hsz hk => ?_
    have e1 : x1 = u := by
      have y1 : its.toArray[i]? = some x1 := y1
      rw [show its.toArray[i]? = its[i]? by simp, hu] at y1
      exact (Option.some.inj y1).symm
    have e2 : x2 = u2 := by
      have y2 : its2.toArray[i]? = some x2 := y2
      rw [show its2.toArray[i]? = its2[i]? by simp, hu2] at y2
      exact (Option.some.inj y2).symm
    subst e1 e2
    refine ⟨_, rfl, wpAny_letOwnedTupleGo_zip (s := { s with heap := h', toks := tk }) z' fun h'' z'' sb => ?_⟩
    have hT2 : h''.get? s.heap.objs.size = some { cls := .type "tuple", data := .seq #[x1, x2] } := (sb.2 _ (Nat.ne_of_gt hzl)).trans hT
    have new : ObjOk X.prog X.w (upd H s.heap.objs.size (.tup [x, y])) h'' s.heap.objs.size (.tup [x, y]) :=
      ⟨by show 2 ≤ sizeLine; decide, [x1, x2], .cons ru (.cons ru2 .nil), ⟨_, hT2, rfl, _, rfl⟩⟩
    have I1 : Inv X pins σ (upd H s.heap.objs.size (.tup [x, y])) { s with heap := h'', toks := tk } :=
      I.turnedNew (t' := tk) (ch := [z, TI, TO, i1, i2]) (fun c o hb q => (sb.2 c (fun q' => hb (by simp [q']))).trans (hk c o (fun q' => hb (by simp [q'])) (fun q' => hb (by simp [q'])) (fun q' => hb (by simp [q'])) (fun q' => hb (by simp [q'])) q)) hf (Nat.le_refl _) new
    have zi1 : i1 ≠ z := S.zi1.symm
    have zi2 : i2 ≠ z := S.zi2.symm
    refine ⟨.ref s.heap.objs.size, _, I1, rfl, ⟨_, x, y, rfl, I.hok.fresh (Nat.le_refl _), rfl, fun l hl => by rw [sqB_inj I hl hqx]; exact hx, fun l hl => by rw [sqB_inj I hl hqy]; exact hy⟩, ⟨z'', ?_, ⟨x1, x2, ?_⟩, ?_, ?_⟩, fun c hcm => ?_⟩
    · exact (sb.2 _ S.TIz).trans (hk _ _ S.TIz S.TITO S.TIi1 S.TIi2 hTI)
    · exact (sb.2 _ S.TOz).trans TO'
    · exact iterB_at n1.1 fun o q => (sb.2 _ zi1).trans q
    · exact iterB_at n2.1 fun o q => (sb.2 _ zi2).trans q
    · have hlt : c < s.heap.objs.size := by
        have e' : c = z ∨ c = TI ∨ c = TO ∨ c = i1 ∨ c = i2 := by simpa using hcm
        rcases e' with rfl | rfl | rfl | rfl | rfl
        · exact hzl
        · exact Heap.lt_size hTI
        · exact Heap.lt_size hTO
        · exact Heap.lt_size (iterB_obj q1).choose_spec.1
        · exact Heap.lt_size (iterB_obj q2).choose_spec.1
      rw [upd_ne (Nat.ne_of_lt hlt)]
      exact (hf c hcm).1
  done := by
    intro X hP hw hK hc i pins s σ H E I hf st hg
    subst hP hw hK
    obtain ⟨hz, hTI, ⟨x0, y0, hTO⟩, q1, q2⟩ := st
    obtain ⟨xs, ys, hqx, hqy, l1, l2, hend⟩ := hg
    obtain ⟨its, rv, p, _⟩ := sqB_has I hqx
    obtain ⟨its2, rv2, p2, _⟩ := sqB_has I hqy
    have m1 := rv.length
    have m2 := rv2.length
    have hh : X.A.in1.handled = none := I.ok.hd hc
    refine wpAny_pyNext_zipD2_end D.sep (draws_B hh t1 i1 a D.a1 its.toArray) (draws_B hh t2 i2 b D.b2 its2.toArray) hz hTI hTO ⟨q1, p⟩ ⟨q2, p2⟩ (by simp; omega) (by simp; omega) (by simp; omega) fun h' tk hk => ?_
    exact ⟨rfl, I.turnedL (t' := tk) (ch := [z, TI, TO, i1, i2]) (fun c o hb q =>
      hk c o (fun q' => hb (by simp [q'])) (fun q' => hb (by simp [q'])) (fun q' => hb (by simp [q'])) (fun q' => hb (by simp [q'])) q) hf⟩
  self := fun A i s Q E st h => wpAny_pyIter_zip st.1 h
def iZipM (K : PySem.W.Frag) (ta : TA) : TI := fun σ H R => ta σ H fun vs H1 => ∃ t1 t2 a b xs ys, vs = [.ref a, .ref b] ∧ SqB K t1 H1 a xs ∧ SqB K t2 H1 b ys ∧ R (ItzM K t1 t2 a b) H1
theorem pi_zipM {X : Cx} {e e2 : Expr} {ta : TA} {p pos tpos : Pos} {elts : List Expr} {kk : Nat} (hg : Gl X "zip") (hm : X.mg "zip" = none) (ha : PA X [e, e2] ta)
    (hs : starEach [e, e2] X.env = (false, eval e X.env) :: starEach [e2] X.env := by rfl) (hpl : (backTo pos (starEach [e2] X.env)).any (·.1) = false := by rfl) :
    PI X (.Tuple elts kk tpos) (.Call (.Name "zip" p) [e, e2] [] pos) (iZipM X.K ta) := by
  refine ⟨fun pins s σ H R I h => ?_⟩
  refine Call_ (ld_blt I hg hm PyProof.Rows.boot_zip (PyProof.Rows.callWith_type1 (thn (ha.run pos pins s σ H _ I h) fun us s1 ⟨vs, H1, I1, r1, q1⟩ => ?_) hs hpl))
  obtain ⟨t1, t2, a, b, xs, ys, rfl, hqx, hqy, q⟩ := q1
  cases r1 with
  | cons r rr =>
    cases rr with
    | cons r' rr =>
      cases rr
      cases r
      cases r'
      have fresh5 : ∀ c, c ∈ [s1.heap.objs.size + 4, s1.heap.objs.size + 2, s1.heap.objs.size + 3, s1.heap.objs.size, s1.heap.objs.size + 1] → FpOk X pins H1 c := fun c hcm => by
        have hle : s1.heap.objs.size ≤ c := by
          simp only [List.mem_cons, List.not_mem_nil, or_false] at hcm
          rcases hcm with e | e | e | e | e
          all_goals (rw [e]; first | exact Nat.le_refl _ | exact Nat.le_add_right _ _)
        exact I1.fpOk hle (I1.hok.fresh hle)
      obtain ⟨its, rv, p1, lt1⟩ := sqB_has I1 hqx
      obtain ⟨its2, rv2, p2, lt2⟩ := sqB_has I1 hqy
      refine zip_begins2 (begins_B t1 a its.toArray) (begins_B t2 b its2.toArray) p1 p2 fun h' hz hTI hTO h1 h2 hsz hk => wpAny_pyIter_zip hz ?_
      have I2 : Inv X pins σ H1 { s1 with heap := h' } := I1.kept (t' := s1.toks) hk
      exact ⟨s1.heap.objs.size + 4, [s1.heap.objs.size + 4, s1.heap.objs.size + 2, s1.heap.objs.size + 3, s1.heap.objs.size, s1.heap.objs.size + 1], _, _, H1, rfl, I2, turn_zipM (five_new lt1 lt2), ⟨hz, hTI, ⟨_, _, hTO⟩, iterB_new h1, iterB_new h2⟩, fresh5, q⟩
end PD
namespace PD
open PySem PySem.Spec PyProof.Rows L2
section
variable {X : Cx} {W : WX} {L O O1 O' : Own} {pos : Pos}
def forF (g : GM) (m : SM) : List SV → SM
  | [] => sNx
  | x :: xs => fun fr S => match g x fr with
    | none => .bad
    | some fr1 => match m fr1 S with
      | .nx fr2 S2 => forF g m xs fr2 S2
      | .ct fr2 S2 => forF g m xs fr2 S2
      | .bk fr2 S2 => .nx fr2 S2
      | r => r
def sFor (g : GM) (it : AM) (m : SM) : SM := fun fr S => (it fr S).toS fr fun xs S1 => forF g m xs fr S1
def ItR (M : Mo) (G : Gh) (H : Hp) (xs : List SV) (J : It) : Prop := ∀ S' G' H', Base M H' S' G' → Adv G H G' H' → J.stop xs.length H' ∧
  ∀ i x, xs[i]? = some x → J.go i H' ∧ ∀ u H2, J.yld i H' u H2 → Base M H2 S' G' ∧ Stp G' H' G' H2 ∧ RpS M G' H2 x u
def tI (M : Mo) (W : WX) (O : Own) (m : AM) : TI := fun σ H R => ∃ fr S G, Rel M O σ H fr S G ∧ Pst M W O σ H fr G (m fr S) (ItR M) R
def CI (X : Cx) (W : WX) (O : Own) (tg e : Expr) (m : AM) : Prop := PI X tg e (tI (.of X) W O m)
theorem piI {X : Cx} {tg e : Expr} {t t' : TI} (h : PI X tg e t) (i : ∀ σ H R, t' σ H R → t σ H R) : PI X tg e t' := ⟨fun pins s σ H R I q => h.run pins s σ H R I (i σ H R q)⟩
theorem cs_for {tg iter : Expr} {body : List Stmt} {g : GM} {it : AM} {m : SM} {ts : List Nat} (hp : PassesOwn (model X.prog X.w) X.A X.env X.xe) (hc : X.calm = true) (hi : CI X W O tg iter it) (hg : CG X O tg g O1 ts) (hb : CSs X W O O1 body m O)
    (hs : ∀ x, foldedSetIterable iter X.env x = pure x := by intro _; rfl) : CS X W L O (.For tg iter body [] pos) (sFor g it m) O := by
  refine psI (ps_for hp hc hi hg hb hs) fun D σ H ⟨fr, S, G, R, h⟩ => ⟨fr, S, G, R, h.expr (O := O) R fun xs S1 J H1 G1 R1 st1 a1 J1 h1 => ?_⟩
  refine ⟨fun i n σ' H' => n = xs.length - i ∧ i ≤ xs.length ∧ ∃ fr S G, Rel (.of X) O σ' H' fr S G ∧ Adv G1 H1 G H' ∧ SPst (.of X) W L O H' G (forF g m (xs.drop i) fr S) D, ⟨xs.length, by omega, by omega, fr, S1, G1, R1, Adv.refl, by simpa using h1⟩, ?_⟩
  rintro i n σ2 H2 ⟨rfl, hle, fr, S, G, R, a, h⟩
  by_cases hlt : i < xs.length
  · right
    have hd : xs.drop i = xs[i] :: xs.drop (i + 1) := List.drop_eq_getElem_cons hlt
    rw [hd] at h
    obtain ⟨_, it1⟩ := J1 S G H2 R.base a
    obtain ⟨go, yld⟩ := it1 i xs[i] (List.getElem?_eq_getElem hlt)
    refine ⟨go, fun σ' H' => xs.length - (i + 1) = xs.length - (i + 1) ∧ i + 1 ≤ xs.length ∧ ∃ fr S G, Rel (.of X) O σ' H' fr S G ∧ Adv G1 H1 G H' ∧ SPst (.of X) W L O H' G (forF g m (xs.drop (i + 1)) fr S) D, fun σ' H' q => ⟨_, by omega, q⟩, fun u H3 y => ?_⟩
    obtain ⟨B3, st3, r3⟩ := yld u H3 y
    have R3 : Rel (.of X) O σ2 H3 fr S G := R.step st3 B3
    have a3 : Adv G H2 G H3 := R.base.adv st3
    have h3 := h.on a3
    cases q : g xs[i] fr with
    | none => exact (h3.good (by simp [forF, q])).elim
    | some fr1 =>
      refine ⟨xs[i], fr, S, G, fr1, R3, r3, q, fun σ4 R4 _ => ⟨fr1, S, G, R4, ?_⟩⟩
      have he : forF g m (xs[i] :: xs.drop (i + 1)) fr S = (match m fr1 S with
        | .nx fr2 S2 => forF g m (xs.drop (i + 1)) fr2 S2
        | .ct fr2 S2 => forF g m (xs.drop (i + 1)) fr2 S2
        | .bk fr2 S2 => .nx fr2 S2
        | r => r) := by simp only [forF, q]
      rw [he] at h3
      refine ⟨fun e => h3.good (by rw [e]), fun fr' S' e σ' H' G' R' a' => ?_, fun fr' S' e σ' H' G' R' a' => ?_, fun fr' S' e σ' H' G' R' a' => ?_, fun v S' e => ?_, fun x fr' S' e => ?_⟩
      · rw [e] at h3
        exact ⟨rfl, hlt, fr', S', G', R', (a.trans a3).trans a', h3.on a'⟩
      · rw [e] at h3
        exact h3.nx fr' S' rfl σ' H' G' R' a'
      · rw [e] at h3
        exact ⟨rfl, hlt, fr', S', G', R', (a.trans a3).trans a', h3.on a'⟩
      · rw [e] at h3
        exact h3.rt v S' rfl
      · rw [e] at h3
        exact h3.exc x fr' S' rfl
  · left
    have e : i = xs.length := by omega
    subst e
    rw [List.drop_length] at h
    exact ⟨(J1 S G H2 R.base a).1, h.nx fr S rfl σ2 H2 G R Adv.refl⟩
end
def chr (c : Nat) : SV := .d (.str ⟨#[c]⟩)
def iterV : SV → Option (List SV)
  | .d (.list ds) => some (ds.map .d)
  | .d (.tuple ds) => some (ds.map .d)
  | .d (.str z) => some (z.cps.toList.map chr)
  | _ => none
def iSeq (m : EM) : AM := fun fr S => (m fr S).bind fun x S1 => ofO (iterV x) S1
section
variable {M : Mo} {G G' : Gh} {H H' : Hp} {S : Store}
theorem Adv.sqT (a : Adv G H G' H') {K : PySem.W.Frag} {p : Addr} {xs : List V} (h : SqT K H p xs) : SqT K H' p xs := a.keeps.sqT h
theorem Adv.rpAll (a : Adv G H G' H') {ds : List PyData} {vs : List V} (h : RpAll M G.F H ds vs) : RpAll M G'.F H' ds vs := RpAll.keep a.keeps h
theorem map_get {ds : List PyData} {vs : List V} {i : Nat} {x : SV} (r : RpAll M G.F H ds vs) (h : (ds.map SV.d)[i]? = some x) : ∃ d v, x = .d d ∧ ds[i]? = some d ∧ vs[i]? = some v ∧ Rp M G.F H d v := by
  rw [List.getElem?_map] at h
  cases e : ds[i]? with
  | none => rw [e] at h; cases h
  | some d =>
    rw [e] at h
    obtain ⟨v, h1, h2⟩ := r.get e
    exact ⟨d, v, (Option.some.inj h).symm, rfl, h1, h2⟩
theorem itR_list {p : Addr} {ds : List PyData} {vs : List V} (f : G.F p) (q : H p = some (.lst vs)) (r : RpAll M G.F H ds vs) : ItR M G H (ds.map .d) (Itl M.K p) := fun S' G' H' B a => by
  have q' : H' p = some (.lst vs) := a.keeps.frozen p _ f q
  have s' : SqL M.K H' p vs := SqL.of q'
  have r' := a.rpAll r
  refine ⟨⟨vs, s', by rw [List.length_map, r.length]; exact Nat.le_refl _⟩, fun i x hx => ?_⟩
  obtain ⟨d, v, rfl, _, hv, rd⟩ := map_get r' hx
  refine ⟨⟨vs, v, s', hv⟩, fun u H2 y => ?_⟩
  obtain ⟨rfl, y⟩ := y
  have e := y vs s'
  rw [hv] at e
  cases e
  exact ⟨B, Stp.refl, rd⟩
theorem itR_tup {p : Addr} {ds : List PyData} {vs : List V} (q : SqT M.K H p vs) (r : RpAll M G.F H ds vs) : ItR M G H (ds.map .d) (Itt M.K p) := fun S' G' H' B a => by
  have s' : SqT M.K H' p vs := a.sqT q
  have r' := a.rpAll r
  refine ⟨⟨vs, s', by rw [List.length_map, r.length]; exact Nat.le_refl _⟩, fun i x hx => ?_⟩
  obtain ⟨d, v, rfl, _, hv, rd⟩ := map_get r' hx
  refine ⟨⟨vs, v, s', hv⟩, fun u H2 y => ?_⟩
  obtain ⟨rfl, y⟩ := y
  have e := y vs s'
  rw [hv] at e
  cases e
  exact ⟨B, Stp.refl, rd⟩
theorem itR_str {z : Str} : ItR M G H (z.cps.toList.map chr) (Its z) := fun S' G' H' B a => by
  refine ⟨by show z.cps.size ≤ _; simp, fun i x hx => ?_⟩
  rw [List.getElem?_map] at hx
  cases e : z.cps.toList[i]? with
  | none => rw [e] at hx; cases hx
  | some c =>
    rw [e] at hx
    have hx' : chr c = x := Option.some.inj hx
    subst hx'
    have hi : i < z.cps.size := by
      have := (List.getElem?_eq_some_iff.mp e).1
      simpa using this
    refine ⟨hi, fun u H2 y => ?_⟩
    obtain ⟨rfl, c', hc, rfl⟩ := y
    have : c' = c := by
      rw [Array.getElem?_toList] at e
      rw [e] at hc
      exact (Option.some.inj hc).symm
    subst this
    exact ⟨B, Stp.refl, Rp.str _⟩
theorem itR_range {lo : Int} {n : Nat} : ItR M G H ((List.range n).map fun i => SV.d (.int (lo + (i : Nat)))) (Itr lo n) := fun S' G' H' B a => by
  refine ⟨by show n ≤ _; simp, fun i x hx => ?_⟩
  rw [List.getElem?_map] at hx
  by_cases hi : i < n
  · rw [List.getElem?_range hi] at hx
    have hx' : SV.d (.int (lo + (i : Nat))) = x := Option.some.inj hx
    subst hx'
    refine ⟨hi, fun u H2 y => ?_⟩
    obtain ⟨rfl, rfl⟩ := y
    exact ⟨B, Stp.refl, Rp.int _⟩
  · rw [List.getElem?_eq_none (by simpa using hi)] at hx
    cases hx
end
def iAny (K : PySem.W.Frag) (tl : TE) : TI := fun σ H R => tl σ H fun x H1 => (∃ a, x = .ref a ∧ (∃ xs, SqL K H1 a xs) ∧ R (Itl K a) H1) ∨ (∃ a, x = .ref a ∧ (∃ xs, SqT K H1 a xs) ∧ R (Itt K a) H1) ∨ ∃ z, x = .str z ∧ R (Its z) H1
theorem pi_any {X : Cx} {tg l : Expr} {tl : TE} (hl : PE X l tl) : PI X tg l (iAny X.K tl) := by
  refine ⟨fun pins s σ H R I h => ?_⟩
  refine thn (hl.run pins s σ H _ I h) fun v s1 ⟨x, H1, I1, r1, q1⟩ => ?_
  rcases q1 with ⟨a, e, ⟨xs, hq⟩, q⟩ | ⟨a, e, ⟨xs, hq⟩, q⟩ | ⟨z, e, q⟩
  · subst e
    cases r1
    obtain ⟨its, rv, p, hz⟩ := I1.list hq
    refine wpAny_pyIter_list p.isList ⟨s1.heap.objs.size, [s1.heap.objs.size], _, _, H1, rfl, I1.kept (t' := s1.toks) fun b o e => Heap.get?_push_of_some _ e, turn_list a _, ⟨_, Heap.get?_push_size _ rfl, rfl, rfl⟩, ?_, q⟩
    intro b hb
    obtain rfl : b = s1.heap.objs.size := by simpa using hb
    exact I1.fpOk (Nat.le_refl _) (I1.hok.fresh (Nat.le_refl _))
  · subst e
    cases r1
    obtain ⟨its, rv, p, hz⟩ := I1.tuple hq
    refine wpAny_pyIter_tuple (show s1.heap.IsTuple a its.toArray from p) ⟨s1.heap.objs.size, [s1.heap.objs.size], _, _, H1, rfl, I1.kept (t' := s1.toks) fun b o e => Heap.get?_push_of_some _ e, turn_tuple a _, ⟨_, Heap.get?_push_size _ rfl, rfl, rfl⟩, ?_, q⟩
    intro b hb
    obtain rfl : b = s1.heap.objs.size := by simpa using hb
    exact I1.fpOk (Nat.le_refl _) (I1.hok.fresh (Nat.le_refl _))
  · subst e
    obtain ⟨t, rfl⟩ := r1
    cases ha : z.cps.all (· < 128) with
    | false => exact wpAny_pyIter_wide ha (pi_one (tk := s1.toks) I1 _ (turn_str _ z t "str_iterator" (.inr rfl)) ⟨_, Heap.get?_push_size _ rfl, rfl, rfl⟩ q)
    | true => exact wpAny_pyIter_ascii ha (pi_one (tk := s1.toks) I1 _ (turn_str _ z t "str_ascii_iterator" (.inl rfl)) ⟨_, Heap.get?_push_size _ rfl, rfl, rfl⟩ q)
def big62 (i : Int) : Bool := decide (-(2 ^ 62) ≤ i) && decide (i < 2 ^ 62)
def rngL (lo hi : Int) : List SV := (List.range (hi - lo).toNat).map fun i => SV.d (.int (lo + (i : Nat)))
def rng1V : List SV → Store → Rs (List SV)
  | [.d (.int j)], S => if big62 j = true then .ok (rngL 0 j) S else .bad
  | _, _ => .bad
def iA (p : List SV → Store → Rs (List SV)) (a : AM) : AM := fun fr S => (a fr S).bind fun xs S1 => p xs S1
def zipV : List SV → Store → Rs (List SV)
  | [.d (.list xs), .d (.list ys)], S => .ok ((xs.zip ys).map fun p => SV.d (.tuple [p.1, p.2])) S
  | [.d (.tuple xs), .d (.tuple ys)], S => .ok ((xs.zip ys).map fun p => SV.d (.tuple [p.1, p.2])) S
  | [.d (.tuple xs), .d (.list ys)], S => .ok ((xs.zip ys).map fun p => SV.d (.tuple [p.1, p.2])) S
  | [.d (.list xs), .d (.tuple ys)], S => .ok ((xs.zip ys).map fun p => SV.d (.tuple [p.1, p.2])) S
  | _, _ => .bad
section
variable {X : Cx} {W : WX} {O : Own} {tg : Expr}
theorem ci_any {e : Expr} {m : EM} (he : CE X W O e m) : CI X W O tg e (iSeq m) :=
  piI (pi_any he) fun σ H R ⟨fr, S, G, R0, h⟩ => ⟨fr, S, G, R0, h.split fun x S1 u H1 G1 R1 st1 rx h1 => by
    cases e : iterV x with
    | none => rw [e] at h1; exact h1.not_bad.elim
    | some xs =>
      rw [e] at h1
      unfold iterV at e
      split at e
      · cases e
        cases rx with
        | lst f q r => exact .inl ⟨_, rfl, ⟨_, SqL.of q⟩, h1.here R1 (itR_list f q r)⟩
      · cases e
        cases rx with
        | tup q r => exact .inr (.inl ⟨_, rfl, ⟨_, q⟩, h1.here R1 (itR_tup q r)⟩)
      · cases e
        cases rx
        exact .inr (.inr ⟨_, rfl, h1.here R1 itR_str⟩)
      · cases e⟩
theorem ci_range1 {a : Expr} {m : AM} {p pos : Pos} (hg : Gl X "range") (hm : X.mg "range" = none) (ha : CA X W O [a] m) (hs : starEach [a] X.env = [(false, eval a X.env)] := by rfl) : CI X W O tg (.Call (.Name "range" p) [a] [] pos) (iA rng1V m) :=
  piI (pi_range1 hg hm ha hs) fun σ H R ⟨fr, S, G, R0, h⟩ => ⟨fr, S, G, R0, h.split fun xs S1 us H1 G1 R1 st1 rs h1 => by
    unfold rng1V at h1
    split at h1
    · split at h1
      · rename_i hz
        obtain ⟨u, rfl, ru⟩ := rs.one
        cases ru
        simp only [big62, Bool.and_eq_true, decide_eq_true_eq] at hz
        unfold rngL at h1
        rw [Int.sub_zero] at h1
        exact ⟨_, rfl, hz.1, hz.2, h1.here R1 itR_range⟩
      · exact h1.not_bad.elim
    · exact h1.not_bad.elim⟩
def i1 (p : SV → Store → Rs (List SV)) (a : EM) : AM := fun fr S => (a fr S).bind fun x S1 => p x S1
theorem zip_get {xs ys : List PyData} {i : Nat} {x : SV} (h : ((xs.zip ys).map fun p => SV.d (.tuple [p.1, p.2]))[i]? = some x) : ∃ a b, xs[i]? = some a ∧ ys[i]? = some b ∧ x = .d (.tuple [a, b]) := by
  rw [List.getElem?_map] at h
  cases e : (xs.zip ys)[i]? with
  | none => rw [e] at h; cases h
  | some p =>
    rw [e] at h
    rw [List.getElem?_zip_eq_some] at e
    exact ⟨p.1, p.2, e.1, e.2, (Option.some.inj h).symm⟩
theorem pair_step {M : Mo} {G G' : Gh} {H H' : Hp} {S' : Store} {T : Addr} {v w : V} {a b : PyData} (B : Base M H' S' G') (hT : H' T = none) (ra : Rp M G'.F H' a v) (rb : Rp M G'.F H' b w) :
    Base M (upd H' T (.tup [v, w])) S' G' ∧ Stp G' H' G' (upd H' T (.tup [v, w])) ∧ RpS M G' (upd H' T (.tup [v, w])) (.d (.tuple [a, b])) (.ref T) := by
  obtain ⟨B2, st⟩ := B.newT (o := .tup [v, w]) hT
  exact ⟨B2, st, .tup (.inl (.inl upd_same)) (RpAll.keep (B.keeps st) (.cons ra (.cons rb .nil)))⟩
inductive SqR (M : Mo) (G : Gh) (H : Hp) : Bool → PyData → Addr → List PyData → Prop
  | lst {a : Addr} {ds : List PyData} {vs : List V} : G.F a → H a = some (.lst vs) → RpAll M G.F H ds vs → SqR M G H false (.list ds) a ds
  | tup {a : Addr} {ds : List PyData} {vs : List V} : SqT M.K H a vs → RpAll M G.F H ds vs → SqR M G H true (.tuple ds) a ds
theorem SqR.now {M : Mo} {G : Gh} {H : Hp} {t : Bool} {x : PyData} {a : Addr} {ds : List PyData} (h : SqR M G H t x a ds) : ∃ vs, SqB M.K t H a vs ∧ RpAll M G.F H ds vs := by
  cases h with
  | lst f q r => exact ⟨_, (SqL.of q : SqL _ _ _ _), r⟩
  | tup q r => exact ⟨_, q, r⟩
theorem SqR.on {M : Mo} {G G' : Gh} {H H' : Hp} {t : Bool} {x : PyData} {a : Addr} {ds : List PyData} (A : Adv G H G' H') (h : SqR M G H t x a ds) : SqR M G' H' t x a ds := by
  cases h with
  | lst f q r => exact .lst (A.keeps.sub _ f) (A.keeps.frozen _ _ f q) (A.rpAll r)
  | tup q r => exact .tup (A.sqT q) (A.rpAll r)
theorem itR_zipM {M : Mo} {G : Gh} {H : Hp} {t1 t2 : Bool} {x y : PyData} {p q : Addr} {ds es : List PyData} (h1 : SqR M G H t1 x p ds) (h2 : SqR M G H t2 y q es) :
    ItR M G H ((ds.zip es).map fun p => SV.d (.tuple [p.1, p.2])) (ItzM M.K t1 t2 p q) := fun S' G' H' B a => by
  obtain ⟨vs, s1, r1⟩ := (h1.on a).now
  obtain ⟨us, s2, r2⟩ := (h2.on a).now
  have l1 := r1.length
  have l2 := r2.length
  refine ⟨⟨vs, us, s1, s2, by simp; omega, by simp; omega, by simp; omega⟩, fun i x hx => ?_⟩
  obtain ⟨d, e, h1, h2, rfl⟩ := zip_get hx
  obtain ⟨v, hv, rv⟩ := r1.get h1
  obtain ⟨w, hw, rw'⟩ := r2.get h2
  refine ⟨⟨vs, us, v, w, s1, s2, hv, hw⟩, fun u H2 y => ?_⟩
  obtain ⟨T, v', w', rfl, hT, rfl, k1, k2⟩ := y
  have e1 := k1 vs s1
  rw [hv] at e1
  cases e1
  have e2 := k2 us s2
  rw [hw] at e2
  cases e2
  exact pair_step (G := G) (H := H) B hT rv rw'
theorem ci_zip {e e2 : Expr} {m : AM} {p pos tpos : Pos} {elts : List Expr} {kk : Nat} (hg : Gl X "zip") (hm : X.mg "zip" = none) (ha : CA X W O [e, e2] m)
    (hs : starEach [e, e2] X.env = (false, eval e X.env) :: starEach [e2] X.env := by rfl) (hpl : (backTo pos (starEach [e2] X.env)).any (·.1) = false := by rfl) : CI X W O (.Tuple elts kk tpos) (.Call (.Name "zip" p) [e, e2] [] pos) (iA zipV m) :=
  piI (pi_zipM hg hm ha hs hpl) fun σ H R ⟨fr, S, G, R0, h⟩ => ⟨fr, S, G, R0, h.split fun xs S1 us H1 G1 R1 st1 rs h1 => by
    have two : ∀ {t1 t2 : Bool} {x y : PyData} {a b : Addr} {ds es : List PyData}, us = [.ref a, .ref b] → SqR (.of X) G1 H1 t1 x a ds → SqR (.of X) G1 H1 t2 y b es → Pst (.of X) W O σ H1 fr G1 (.ok ((ds.zip es).map fun p => SV.d (.tuple [p.1, p.2])) S1) (ItR (.of X)) R →
        ∃ t1 t2 a b xs ys, us = [.ref a, .ref b] ∧ SqB X.K t1 H1 a xs ∧ SqB X.K t2 H1 b ys ∧ R (ItzM X.K t1 t2 a b) H1 := fun {t1 t2 x y a b ds es} e q1 q2 h => by
      obtain ⟨vs, s1, _⟩ := q1.now
      obtain ⟨us, s2, _⟩ := q2.now
      exact ⟨t1, t2, a, b, vs, us, e, s1, s2, h.here R1 (itR_zipM q1 q2)⟩
    unfold zipV at h1
    split at h1
    · obtain ⟨u, v, rfl, ru, rv⟩ := rs.two
      cases ru with
      | lst f q r =>
        cases rv with
        | lst f' q' r' => exact two rfl (.lst f q r) (.lst f' q' r') h1
    · obtain ⟨u, v, rfl, ru, rv⟩ := rs.two
      cases ru with
      | tup q r =>
        cases rv with
        | tup q' r' => exact two rfl (.tup q r) (.tup q' r') h1
    · obtain ⟨u, v, rfl, ru, rv⟩ := rs.two
      cases ru with
      | tup q r =>
        cases rv with
        | lst f q' r' => exact two rfl (.tup q r) (.lst f q' r') h1
    · obtain ⟨u, v, rfl, ru, rv⟩ := rs.two
      cases ru with
      | lst f q r =>
        cases rv with
        | tup q' r' => exact two rfl (.lst f q r) (.tup q' r') h1
    · exact h1.not_bad.elim⟩
end
def ItS (M : Mo) (G : Gh) (H : Hp) (xs : List SV) (J : It) : Prop := ∀ S' G' H', Base M H' S' G' → Stp G H G' H' → J.stop xs.length H' ∧
  ∀ i x, xs[i]? = some x → J.go i H' ∧ ∀ u H2, J.yld i H' u H2 → Base M H2 S' G' ∧ Stp G' H' G' H2 ∧ RpS M G' H2 x u
def tIs (M : Mo) (W : WX) (O : Own) (m : AM) : TI := fun σ H R => ∃ fr S G, Rel M O σ H fr S G ∧ Pst M W O σ H fr G (m fr S) (ItS M) R
def CIs (X : Cx) (W : WX) (O : Own) (tg e : Expr) (m : AM) : Prop := PI X tg e (tIs (.of X) W O m)
section
variable {X : Cx} {W : WX} {O : Own} {tg : Expr}
theorem cis_of {e : Expr} {m : AM} (h : CI X W O tg e m) : CIs X W O tg e m := piI h fun σ H R ⟨fr, S, G, R0, h⟩ => ⟨fr, S, G, R0, h.good, fun z S' e J H' G' R' st r => h.ok z S' e J H' G' R' st fun S2 G2 H2 B2 st2 => r S2 G2 H2 B2 (R'.base.adv st2), h.exc⟩
theorem itS_own {M : Mo} {G : Gh} {H : Hp} {S : Store} {p : Addr} {ds : List PyData} {vs : List V} (B0 : Base M H S G) (n : p ∉ G.rho) (q : H p = some (.lst vs)) (r : RpAll M G.F H ds vs) : ItS M G H (ds.map .d) (Itl M.K p) := fun S' G' H' B st => by
  have s' : SqL M.K H' p vs := SqL.of (st.keep p _ q n)
  have r' := RpAll.keep (B0.keeps st) r
  refine ⟨⟨vs, s', by rw [List.length_map, r.length]; exact Nat.le_refl _⟩, fun i x hx => ?_⟩
  obtain ⟨d, v, rfl, _, hv, rd⟩ := map_get r' hx
  refine ⟨⟨vs, v, s', hv⟩, fun u H2 y => ?_⟩
  obtain ⟨rfl, y⟩ := y
  have e := y vs s'
  rw [hv] at e
  cases e
  exact ⟨B, Stp.refl, rd⟩
theorem cis_any {e : Expr} {m : EM} (he : CV X W O e m) : CIs X W O tg e (iSeq m) :=
  piI (pi_any he) fun σ H R ⟨fr, S, G, R0, h⟩ => ⟨fr, S, G, R0, h.split fun x S1 u H1 G1 R1 st1 rx h1 => by
    have toS : ∀ {xs : List SV} {J : It}, ItR (.of X) G1 H1 xs J → ItS (.of X) G1 H1 xs J := fun r S2 G2 H2 B2 st2 => r S2 G2 H2 B2 (R1.base.adv st2)
    cases e : iterV x with
    | none => rw [e] at h1; exact h1.not_bad.elim
    | some xs =>
      rw [e] at h1
      unfold iterV at e
      split at e
      · cases e
        cases rx with
        | val rx =>
          cases rx with
          | lst f q r => exact .inl ⟨_, rfl, ⟨_, SqL.of q⟩, h1.here R1 (toS (itR_list f q r))⟩
        | own n q r => exact .inl ⟨_, rfl, ⟨_, SqL.of q⟩, h1.here R1 (itS_own R1.base n q r)⟩
      · cases e
        obtain ⟨_, _, rfl, q, r⟩ := rx.tup
        exact .inr (.inl ⟨_, rfl, ⟨_, q⟩, h1.here R1 (toS (itR_tup q r))⟩)
      · cases e
        obtain rfl := rx.str
        exact .inr (.inr ⟨_, rfl, h1.here R1 (toS itR_str)⟩)
      · cases e⟩
end
end PD
namespace PD
open PySem PySem.Spec PyProof.Rows L2
def tN (M : Mo) (W : WX) (O : Own) (m : EM) : TE := fun σ H Q => ∃ fr S G, Rel M O σ H fr S G ∧ Pst M W O σ H fr G (m fr S) (fun G' H' v u => ∃ a, u = .ref a ∧ Tmp M H a v G' H') Q
def CN (X : Cx) (W : WX) (O : Own) (e : Expr) (m : EM) : Prop := PE X e (tN (.of X) W O m)
section
variable {M : Mo} {W : WX} {O : Own} {m : EM} {σ : L2.St} {H : Hp} {Q : VK}
theorem tN_of_tM (h : tM M W O m σ H Q) : tN M W O m σ H Q := by
  obtain ⟨fr, S, G, R, h⟩ := h
  refine ⟨fr, S, G, R, h.good, fun z S' e u H' G' R' st ⟨a, eu, t⟩ => ?_, h.exc⟩
  subst eu
  obtain ⟨x, rfl⟩ := Cont.data t.cont
  obtain ⟨G2, R2, st2, r⟩ := R'.tmpFreeze st t (fun i v o e1 e2 => R.own_there o e1 e2 t.new) (by rw [st.h0]; exact (R.base.new0 t.new).1)
  exact h.ok _ S' e _ H' G2 R2 st2 r
end
section
variable {X : Cx} {W : WX} {L O : Own} {pos : Pos}
theorem ce_of_cn {e : Expr} {m : EM} (h : CN X W O e m) : CE X W O e m := peI h fun σ H Q q => tN_of_tM q
def sOwn (i : Nat) (n : Nat) (m : EM) : SM := fun fr S => (m fr S).toS fr fun v S1 => if i < fr.length ∧ i < n then .nx (fr.set i (some v)) S1 else .bad
theorem own_store {O' : Own} {σ : L2.St} {H : Hp} {i : Nat} {m : EM} {D : Ends} (h : tS (.of X) W L O (O.set i true) (sOwn i O.length m) D σ H) : tN (.of X) W O m σ H fun x H1 => gName i x σ H1 D.nx := by
  obtain ⟨fr, S, G, R, h⟩ := h
  refine ⟨fr, S, G, R, h.expr R fun v S1 u H1 G1 R1 st1 a1 ⟨a, eu, t⟩ h1 => ?_⟩
  subst eu
  by_cases hl : i < fr.length ∧ i < O.length
  · have n0 : G1.H0 a = none := by rw [st1.h0]; exact (R.base.new0 t.new).1
    exact h1.nx (fr.set i (some v)) S1 (by rw [if_pos hl]) _ H1 G1 (R1.storeOwn (by rw [← R1.len]; exact hl.1) hl.2 t.nf t.nr n0 t.cont fun j w oj e1 e2 => R.own_there oj e1 e2 t.new) Adv.refl
  · exact (h1.good (by rw [if_neg hl])).elim
theorem cs_own (i : Nat) {x : Str} {e : Expr} {m : EM} {pos' : Pos} (hN : X.N.Nodup) (he : CN X W O e m) (hi : X.N[i]? = some x := by rfl) (hx : Loc X.env.scope x := by first | exact Or.inl rfl | exact Or.inr rfl) (hs : swapsWith e (some (.Name x pos')) pos.line X.env = pure false := by rfl)
    (hf : X.fn x = true ∨ X.env.scope.names.lookup x = some .local := by first | exact .inl rfl | exact .inr rfl) : CS X W L O (.Assign [.Name x pos'] e pos) (sOwn i O.length m) (O.set i true) :=
  psI (ps_set hN hi hx he hs hf) fun D σ H h => own_store (O' := O) h
theorem cn_lst {es : List Expr} {m : AM} (h : CA X W O es m) : CN X W O (.List es pos) (eA mkLst m) := by
  refine peI (pe_lst h) fun σ H Q ⟨fr, S, G, R, h⟩ => ⟨fr, S, G, R, h.split fun xs S1 us H1 G1 R1 st1 rs h1 => ?_⟩
  cases e : asDs xs with
  | none => exact (Pst.not_bad (by simpa [mkLst, e] using h1)).elim
  | some ds =>
    have r := rs.data e
    by_cases z : ds.length ≤ sizeLine
    · have h1' : Pst (.of X) W O σ H1 fr G1 (Rs.ok (.d (.list ds)) S1) (fun G' H' v u => ∃ a, u = V.ref a ∧ Tmp (.of X) H a v G' H') Q := by simpa [mkLst, e, z] using h1
      refine ⟨by rw [← r.length]; exact z, fun p hp => ?_⟩
      obtain ⟨B, st⟩ := R1.base.newT (o := .lst us) hp
      obtain ⟨_, nr, nf⟩ := R1.base.new0 hp
      exact h1'.ok _ _ rfl _ _ G1 (R1.step st B) st ⟨p, rfl, st1.there p hp, nf, nr, .inl ⟨ds, us, rfl, upd_same, RpAll.keep (R1.base.keeps st) r⟩⟩
    · exact (Pst.not_bad (by simpa [mkLst, e, z] using h1)).elim
def wipeF (fr : Fr) : List Nat → Fr
  | [] => fr
  | v :: vs => (wipeF fr vs).set v none
def noX {α : Type} : Rs α → Rs α
  | .exc _ _ => .bad
  | r => r
def compF (g : GM) (tt : TMt) (te : EM) (vs : List Nat) (fr : Fr) : List SV → Store → List PyData → Rs (List PyData)
  | [], S, acc => .ok acc S
  | x :: xs, S, acc => match g x (wipeF fr vs) with
    | none => .bad
    | some fr1 => (noX (tt fr1 S)).bind fun b S1 => if b = true then (noX (te fr1 S1)).bind fun y S2 => match y with
        | .d d => if acc.length < sizeLine then compF g tt te vs fr xs S2 (acc ++ [d]) else .bad
        | _ => .bad
      else compF g tt te vs fr xs S1 acc
def eLc (it : AM) (g : GM) (tt : TMt) (te : EM) (vs : List Nat) : EM := fun fr S => (it fr S).bind fun xs S1 => (compF g tt te vs fr xs S1 []).bind fun ds S2 => .ok (.d (.list ds)) S2
def bYes : TMt := fun _ S => .ok true S
theorem wipeF_length (fr : Fr) : ∀ vs : List Nat, (wipeF fr vs).length = fr.length
  | [] => rfl
  | v :: vs => by unfold wipeF; rw [List.length_set, wipeF_length fr vs]
theorem wipe_get (σ : L2.St) : ∀ (vs : List Nat) (i : Nat), i ∉ vs → (wipe σ vs)[i]? = σ[i]?
  | [], _, _ => rfl
  | v :: vs, i, h => by
    rw [List.mem_cons, not_or] at h
    unfold wipe
    rw [List.getElem?_set_ne (Ne.symm h.1)]
    exact wipe_get σ vs i h.2
theorem wipeF_get {fr : Fr} {v : SV} : ∀ {vs : List Nat} {i : Nat}, (wipeF fr vs)[i]? = some (some v) → i ∉ vs ∧ fr[i]? = some (some v)
  | [], _, h => ⟨by simp, h⟩
  | w :: vs, i, h => by
    unfold wipeF at h
    by_cases e : w = i
    · subst e
      by_cases hl : w < (wipeF fr vs).length
      · rw [List.getElem?_set_self hl] at h; cases h
      · rw [List.getElem?_eq_none (by simpa using hl)] at h; cases h
    · rw [List.getElem?_set_ne e] at h
      obtain ⟨h1, h2⟩ := wipeF_get h
      exact ⟨by rw [List.mem_cons, not_or]; exact ⟨Ne.symm e, h1⟩, h2⟩
theorem wipe_len (σ : L2.St) : ∀ vs : List Nat, (wipe σ vs).length = σ.length
  | [] => rfl
  | v :: vs => by unfold wipe; rw [List.length_set, wipe_len σ vs]
theorem Rel.wipe {M : Mo} {σ : L2.St} {H : Hp} {fr : Fr} {S : Store} {G : Gh} (R : Rel M O σ H fr S G) (vs : List Nat) : Rel M O (L2.wipe σ vs) H (wipeF fr vs) S G := by
  refine ⟨R.base, by rw [wipeF_length, wipe_len]; exact R.len, fun i v e => ?_, fun i j v w a oi oj e1 e2 g1 g2 => ?_⟩
  · obtain ⟨n, e'⟩ := wipeF_get e
    obtain ⟨u, h1, h2⟩ := R.slot i v e'
    exact ⟨u, by rw [wipe_get σ vs i n]; exact h1, h2⟩
  · obtain ⟨n1, e1'⟩ := wipeF_get e1
    obtain ⟨n2, e2'⟩ := wipeF_get e2
    rw [wipe_get σ vs i n1] at g1
    rw [wipe_get σ vs j n2] at g2
    exact R.own i j v w a oi oj e1' e2' g1 g2
theorem wipe_ext {σ σ' : L2.St} (hl : σ'.length = σ.length) : ∀ (vs : List Nat), (∀ k, k ∉ vs → σ'[k]? = σ[k]?) → L2.wipe σ' vs = L2.wipe σ vs := fun vs h => by
  refine List.ext_getElem? fun k => ?_
  by_cases hk : k ∈ vs
  · have inn : ∀ (τ : L2.St), k < τ.length → (L2.wipe τ vs)[k]? = some none := fun τ ht => by
      have go : ∀ ws : List Nat, k ∈ ws → (L2.wipe τ ws)[k]? = some none := fun ws => by
        induction ws with
        | nil => intro z; cases z
        | cons w ws ih =>
          intro z
          unfold L2.wipe
          by_cases e : w = k
          · subst e
            rw [List.getElem?_set_self (by rw [wipe_len]; exact ht)]
          · rw [List.getElem?_set_ne e]
            rcases List.mem_cons.mp z with q | q
            · exact absurd q.symm e
            · exact ih q
      exact go vs hk
    by_cases hlt : k < σ.length
    · rw [inn σ hlt, inn σ' (by rw [hl]; exact hlt)]
    · rw [List.getElem?_eq_none (show (L2.wipe σ' vs).length ≤ k by rw [wipe_len]; omega), List.getElem?_eq_none (show (L2.wipe σ vs).length ≤ k by rw [wipe_len]; omega)]
  · rw [wipe_get _ _ _ hk, wipe_get _ _ _ hk, h k hk]
theorem wipe_out {σ σ' : L2.St} {ts vs : List Nat} (o : Out ts (L2.wipe σ vs) σ') (hsub : ∀ k ∈ ts, k ∈ vs) : L2.wipe σ' vs = L2.wipe σ vs := by
  have h1 : L2.wipe σ' vs = L2.wipe (L2.wipe σ vs) vs := wipe_ext o.1 vs fun k hk => o.2 k fun z => hk (hsub k z)
  rw [h1]
  exact wipe_ext (wipe_len σ vs) vs fun k hk => wipe_get σ vs k hk
end
section
variable {M : Mo} {W : WX} {O O1 : Own} {σ : L2.St} {H : Hp} {Q : VK} {it : AM} {g : GM} {tt : TMt} {te : EM} {vs ts : List Nat}
abbrev WF : WX := fun _ _ _ _ => False
theorem Pst.ofX {α β : Type} {fr : Fr} {G : Gh} {r : Rs α} {rel : Gh → Hp → α → β → Prop} {Q : β → Hp → Prop} (g : noX r ≠ .bad) (k : ∀ (z : α) (S' : Store), r = .ok z S' → ∀ (u : β) (H' : Hp) (G' : Gh), Rel M O σ H' fr S' G' → Stp G H G' H' → rel G' H' z u → Q u H') : Pst M WF O σ H fr G r rel Q :=
  ⟨fun e => g (by rw [e]; rfl), k, fun x S' e => (g (by rw [e]; rfl)).elim⟩
theorem lc_read (hsub : ∀ k ∈ ts, k ∈ vs) (h : tN M W O (eLc it g tt te vs) σ H Q) :
    tLc (tIs M W O it) (tG M O O1 ts g) (tT M WF O1 tt) (tM M WF O1 te) vs σ H Q := by
  obtain ⟨fr, S, G, R, h⟩ := h
  refine ⟨fr, S, G, R, h.split fun xs S1 J H1 G1 R1 st1 J1 h1 => fun D hD => ?_⟩
  obtain ⟨B0, st0⟩ := R1.base.newT (o := .lst []) hD
  obtain ⟨_, nr0, nf0⟩ := R1.base.new0 hD
  have hgood : compF g tt te vs fr xs S1 [] ≠ .bad := fun e => h1.good (by rw [e]; rfl)
  refine ⟨fun i n H' => n = xs.length - i ∧ i ≤ xs.length ∧ ∃ S' G' acc, Rel M O σ H' fr S' G' ∧ Stp G1 H1 G' H' ∧ Tmp M H1 D (.d (.list acc)) G' H' ∧ compF g tt te vs fr xs S1 [] = compF g tt te vs fr (xs.drop i) S' acc,
    ⟨xs.length, by omega, by omega, S1, G1, [], R1.step st0 B0, st0, ⟨hD, nf0, nr0, .inl ⟨[], [], rfl, upd_same, .nil⟩⟩, by rw [List.drop_zero]⟩, ?_⟩
  rintro i n H2 ⟨rfl, hle, S2, G2, acc, R2, st2, t2, eq2⟩
  have adv2 : Adv G1 H1 G2 H2 := R1.base.adv st2
  by_cases hlt : i < xs.length
  · right
    have hd : xs.drop i = xs[i] :: xs.drop (i + 1) := List.drop_eq_getElem_cons hlt
    obtain ⟨_, it1⟩ := J1 S2 G2 H2 R2.base st2
    obtain ⟨go, yld⟩ := it1 i xs[i] (List.getElem?_eq_getElem hlt)
    refine ⟨go, fun H' => xs.length - (i + 1) = xs.length - (i + 1) ∧ i + 1 ≤ xs.length ∧ ∃ S' G' acc, Rel M O σ H' fr S' G' ∧ Stp G1 H1 G' H' ∧ Tmp M H1 D (.d (.list acc)) G' H' ∧ compF g tt te vs fr xs S1 [] = compF g tt te vs fr (xs.drop (i + 1)) S' acc,
      fun H' q => ⟨_, by omega, q⟩, fun u H3 y => ?_⟩
    obtain ⟨B3, st3, r3⟩ := yld u H3 y
    have R3 : Rel M O σ H3 fr S2 G2 := R2.step st3 B3
    have t3 := t2.step R2.base st3
    have st13 := st2.trans st3
    rw [hd] at eq2
    cases q : g xs[i] (wipeF fr vs) with
    | none => exact (hgood (by rw [eq2]; simp [compF, q])).elim
    | some fr1 =>
      have e1 : compF g tt te vs fr (xs[i] :: xs.drop (i + 1)) S2 acc = (noX (tt fr1 S2)).bind fun b S3 => if b = true then (noX (te fr1 S3)).bind fun y S4 => match y with
          | .d d => if acc.length < sizeLine then compF g tt te vs fr (xs.drop (i + 1)) S4 (acc ++ [d]) else .bad
          | _ => .bad
        else compF g tt te vs fr (xs.drop (i + 1)) S3 acc := by simp only [compF, q]
      rw [e1] at eq2
      refine ⟨xs[i], wipeF fr vs, S2, G2, fr1, R3.wipe vs, r3, q, fun σ4 R4 o4 => ⟨wipe_out o4 hsub, fr1, S2, G2, R4, ?_⟩⟩
      refine Pst.ofX (fun e => hgood (by rw [eq2, e]; rfl)) fun b S5 eb b' H5 G5 R5 st5 ebb => ?_
      subst ebb
      rw [eb] at eq2
      have eq5 : compF g tt te vs fr xs S1 [] = if b = true then (noX (te fr1 S5)).bind fun y S4 => match y with
          | .d d => if acc.length < sizeLine then compF g tt te vs fr (xs.drop (i + 1)) S4 (acc ++ [d]) else .bad
          | _ => .bad
        else compF g tt te vs fr (xs.drop (i + 1)) S5 acc := eq2
      have RO5 : Rel M O σ H5 fr S5 G5 := R3.step st5 R5.base
      have t5 := t3.step R3.base st5
      have st15 := st13.trans st5
      cases b with
      | false =>
        rw [if_neg Bool.false_ne_true] at eq5 ⊢
        exact ⟨rfl, hlt, S5, G5, acc, RO5, st15, t5, eq5⟩
      | true =>
        rw [if_pos rfl] at eq5 ⊢
        refine ⟨fr1, S5, G5, R5, Pst.ofX (fun e => hgood (by rw [eq5, e]; rfl)) fun y S6 ey w H6 G6 R6 st6 ry => ?_⟩
        rw [ey] at eq5
        have RO6 : Rel M O σ H6 fr S6 G6 := RO5.step st6 R6.base
        have t6 := t5.step RO5.base st6
        have st16 := st15.trans st6
        cases y with
        | obj k => exact (hgood (by rw [eq5]; rfl)).elim
        | scr k => exact (hgood (by rw [eq5]; rfl)).elim
        | d d =>
          have eq6 : compF g tt te vs fr xs S1 [] = if acc.length < sizeLine then compF g tt te vs fr (xs.drop (i + 1)) S6 (acc ++ [d]) else .bad := eq5
          by_cases hz : acc.length < sizeLine
          · rw [if_pos hz] at eq6
            rcases t6.cont with ⟨ds, vs', e, q6, r6⟩ | ⟨_, _, e, _⟩ | ⟨_, _, e, _⟩
            · cases e
              obtain ⟨R7, st7, k7⟩ := R1.tmpWrite (o := .lst (vs' ++ [w])) RO6 st16 t6
              refine ⟨vs', q6, by rw [← r6.length]; exact hz, rfl, hlt, S6, G6, acc ++ [d], R7, st7, ⟨hD, t6.nf, t6.nr, .inl ⟨acc ++ [d], vs' ++ [w], rfl, upd_same, RpAll.keep k7 (r6.append (.cons ry .nil))⟩⟩, eq6⟩
            · cases e
            · cases e
          · rw [if_neg hz] at eq6
            exact (hgood eq6).elim
  · left
    have e : i = xs.length := by omega
    subst e
    rw [List.drop_length] at eq2
    have eq3 : compF g tt te vs fr xs S1 [] = .ok acc S2 := eq2
    refine ⟨(J1 S2 G2 H2 R2.base st2).1, ?_⟩
    rw [eq3] at h1
    exact h1.ok _ S2 rfl _ H2 G2 R2 st2 ⟨D, rfl, ⟨st1.there D hD, t2.nf, t2.nr, t2.cont⟩⟩
end
section
variable {X : Cx} {W : WX} {L O O1 : Own}
theorem cn_lc {elt tg iter : Expr} {ifs : List Expr} {scope : Scope} {own : List (Str × Nat)} {pos : Pos} {it : AM} {g : GM} {tt : TMt} {te : EM} {ts : List Nat} (hc : X.calm = true) (hN : X.N.Nodup) (hi : CIs X W O tg iter it) (ok : BlkOk X.N X.env.scope scope own)
    (hg : ∀ (s : Shared) (H : Hp) (C : Addr) (cl : List (Str × Addr)) (fp : List Addr), CG (X.blk s H scope (compEnvC scope cl C X.env) fp) O tg g O1 ts)
    (ht : ∀ (s : Shared) (H : Hp) (C : Addr) (cl : List (Str × Addr)) (fp : List Addr), PTs (X.blk s H scope (compEnvC scope cl C X.env) fp) ifs (tT (.of X) WF O1 tt))
    (he : ∀ (s : Shared) (H : Hp) (C : Addr) (cl : List (Str × Addr)) (fp : List Addr), CE (X.blk s H scope (compEnvC scope cl C X.env) fp) WF O1 elt te)
    (hsub : (ts.all fun k => (own.map (·.2)).contains k) = true := by rfl) (hs : ∀ x, foldedSetIterable iter X.env x = pure x := by intro _; rfl) :
    CN X W O (.ListComp elt [⟨tg, iter, ifs, 0⟩] scope pos) (eLc it g tt te (own.map (·.2))) :=
  peI (pe_lc (g := tG (.of X) O O1 ts g) (tt := tT (.of X) WF O1 tt) (te := tM (.of X) WF O1 te) hc hN hi ok hg ht he hs) fun σ H Q h => lc_read (fun k hk => by simpa using List.all_eq_true.mp hsub k hk) h
theorem set_read {σ : L2.St} {H : Hp} {i : Nat} {m : EM} {D : Ends} (h : tS (.of X) W L O (O.set i false) (sAsg (gSet i) (fE m)) D σ H) : tM (.of X) W O m σ H fun x H1 => gName i x σ H1 D.nx := by
  obtain ⟨fr, S, G, R, h⟩ := h
  have h' : SPst (.of X) W L (O.set i false) H G ((m fr S).toS fr fun v S1 => ofG (gSet i v fr) S1) D := by
    have e : sAsg (gSet i) (fE m) fr S = (m fr S).toS fr fun v S1 => ofG (gSet i v fr) S1 := by
      unfold sAsg fE
      cases m fr S <;> rfl
    rw [← e]
    exact h
  refine ⟨fr, S, G, R, h'.expr R fun v S1 u H1 G1 R1 st1 a1 r h1 => ?_⟩
  by_cases hl : i < fr.length
  · exact h1.nx (fr.set i (some v)) S1 (by simp [ofG, gSet, hl]) _ H1 G1 (R1.store (by rw [← R1.len]; exact hl) r) Adv.refl
  · exact (h1.good (by simp [ofG, gSet, hl])).elim
theorem cts_nil {X : Cx} {M : Mo} : PTs X [] (tT M WF O bYes) := ⟨fun pins s σ H Q I h => pts_nil.run pins s σ H Q I (by
  obtain ⟨fr, S, G, R, h⟩ := h
  exact h.here R rfl)⟩
end
end PD
namespace PD
open PySem PySem.Spec PyProof.Rows L2
section
variable {M : Mo} {W : WX} {O : Own} {σ : L2.St} {H : Hp} {fr : Fr} {S : Store} {G : Gh}
theorem Rel.ownAt (R : Rel M O σ H fr S G) {i : Nat} {ds : List PyData} (ho : O.has i) (h : ownL fr i = some ds) : ∃ a xs, σ[i]? = some (some (.ref a)) ∧ H a = some (.lst xs) ∧ RpAll M G.F H ds xs := by
  obtain ⟨u, h1, h2, _⟩ := R.slot i _ (ownL_some h)
  obtain ⟨a, e, _, _, _, c⟩ := h2 ho
  subst e
  rcases c with ⟨es, xs, e, q, r⟩ | ⟨_, _, e, _⟩ | ⟨_, _, e, _⟩
  · cases e
    exact ⟨a, xs, h1, q, r⟩
  · cases e
  · cases e
theorem Rel.ownSet (R : Rel M O σ H fr S G) {i : Nat} {ds es : List PyData} {a : Addr} {xs ys : List V} (ho : O.has i) (h : ownL fr i = some ds) (hs : σ[i]? = some (some (V.ref a))) (hH : H a = some (.lst xs)) (r : RpAll M G.F H es ys) :
    Rel M O σ (upd H a (.lst ys)) (fr.set i (some (.d (.list es)))) S G ∧ Adv G H G (upd H a (.lst ys)) := by
  have nfz : ¬ G.F a ∧ a ∉ G.rho ∧ G.H0 a = none := by
    obtain ⟨u, h1, h2, _⟩ := R.slot i _ (ownL_some h)
    obtain ⟨b, e, nf, nr, h0, _⟩ := h2 ho
    rw [h1] at hs
    have : u = .ref a := by simpa using hs
    rw [e] at this
    cases this
    exact ⟨nf, nr, h0⟩
  have k := (R.base.write (o := .lst ys) nfz.1 nfz.2.1 nfz.2.2 (.inl ⟨xs, hH⟩)).2
  exact R.ownWrite ho (ownL_some h) hs (.inl ⟨es, ys, rfl, upd_same, RpAll.keep k r⟩)
end
def sApp (i : Nat) (m : EM) : SM := fun fr S => match ownL fr i with
  | some ds => (m fr S).toS fr fun y S1 => (match y with
    | .d d => if ds.length < sizeLine then .nx (fr.set i (some (.d (.list (ds ++ [d]))))) S1 else .bad
    | _ => .bad)
  | none => .bad
def sExt (i : Nat) (m : EM) : SM := fun fr S => match ownL fr i with
  | some ds => (m fr S).toS fr fun y S1 => (match y with
    | .d (.list es) => if ds.length + es.length ≤ sizeLine then .nx (fr.set i (some (.d (.list (ds ++ es))))) S1 else .bad
    | _ => .bad)
  | none => .bad
def sPutI (i : Nat) (m k : EM) : SM := fun fr S => match ownL fr i with
  | some ds => (m fr S).toS fr fun y S1 => (k fr S1).toS fr fun z S2 => (match y, z with
    | .d d, .d (.int n) => (match ixN ds.length n with
      | some j => .nx (fr.set i (some (.d (.list (ds.set j d))))) S2
      | none => .bad)
    | _, _ => .bad)
  | none => .bad
theorem RpAll.dropLast {M : Mo} {F : Addr → Prop} {H : Hp} : ∀ {ds : List PyData} {vs : List V}, RpAll M F H ds vs → RpAll M F H ds.dropLast vs.dropLast
  | _, _, .nil => .nil
  | _, _, .cons r .nil => .nil
  | _, _, .cons r (.cons q t) => .cons r (RpAll.dropLast (.cons q t))
theorem RpAll.set {M : Mo} {F : Addr → Prop} {H : Hp} {d : PyData} {v : V} (r : Rp M F H d v) : ∀ {ds : List PyData} {vs : List V} (j : Nat), RpAll M F H ds vs → RpAll M F H (ds.set j d) (vs.set j v)
  | _, _, _, .nil => .nil
  | _, _, 0, .cons _ t => .cons r t
  | _, _, j + 1, .cons q t => .cons q (RpAll.set r j t)
section
variable {X : Cx} {W : WX} {L O : Own} {st : Stmt} {e : Expr}
theorem has_of {i : Nat} (ho : (O[i]? == some true) = true) : O.has i := by simpa [Own.has] using ho
theorem cs_app (i : Nat) {m : EM} (ho : (O[i]? == some true) = true) (h : PS X st (tDrop (tBM X.K "list" rAppend (tVar i) (tCons (tM (.of X) W O m) tNil)))) : CS X W L O st (sApp i m) O := by
  have ho' := has_of ho
  refine psI h fun D σ H ⟨fr, S, G, R, h⟩ => ?_
  unfold sApp at h
  split at h
  · rename_i ds hds
    obtain ⟨a, xs, hs, hH, r⟩ := R.ownAt ho' hds
    refine ⟨_, hs, .inl ⟨rfl, xs, SqL.of hH⟩, fr, S, G, R, h.expr R fun y S1 u H1 G1 R1 st1 a1 ry h1 => ?_⟩
    split at h1
    · split at h1
      · rename_i hz
        obtain ⟨a', xs', hs', hH', r'⟩ := R1.ownAt ho' hds
        have ea : a' = a := by rw [hs] at hs'; cases hs'; rfl
        subst ea
        obtain ⟨R2, a2⟩ := R1.ownSet (ys := xs' ++ [u]) ho' hds hs' hH' (r'.append (.cons ry .nil))
        exact ⟨a', xs', u, rfl, rfl, hH', by rw [← r'.length]; exact hz, h1.nx _ S1 rfl _ _ G1 R2 a2⟩
      · exact (h1.good rfl).elim
    · exact (h1.good rfl).elim
  · exact (h.good rfl).elim
theorem cs_ext (i : Nat) {m : EM} (ho : (O[i]? == some true) = true) (h : PS X st (tDrop (tBM X.K "list" rExtend (tVar i) (tCons (tM (.of X) W O m) tNil)))) : CS X W L O st (sExt i m) O := by
  have ho' := has_of ho
  refine psI h fun D σ H ⟨fr, S, G, R, h⟩ => ?_
  unfold sExt at h
  split at h
  · rename_i ds hds
    obtain ⟨a, xs, hs, hH, r⟩ := R.ownAt ho' hds
    refine ⟨_, hs, .inl ⟨rfl, xs, SqL.of hH⟩, fr, S, G, R, h.expr R fun y S1 u H1 G1 R1 st1 a1 ry h1 => ?_⟩
    split at h1
    · split at h1
      · rename_i hz
        obtain ⟨a', xs', hs', hH', r'⟩ := R1.ownAt ho' hds
        have ea : a' = a := by rw [hs] at hs'; cases hs'; rfl
        subst ea
        cases ry with
        | lst f q rr =>
          obtain ⟨R2, a2⟩ := R1.ownSet (ys := xs' ++ _) ho' hds hs' hH' (r'.append rr)
          exact ⟨a', _, xs', _, rfl, rfl, hH', q, by rw [← r'.length, ← rr.length]; exact hz, h1.nx _ S1 rfl _ _ G1 R2 a2⟩
      · exact (h1.good rfl).elim
    · exact (h1.good rfl).elim
  · exact (h.good rfl).elim
def sAug (i : Nat) (p : SV → SV → Store → Rs SV) (m : EM) : SM := fun fr S => match fr[i]? with
  | some (some x) => (m fr S).toS fr fun y S1 => (p x y S1).toS fr fun z S2 => .nx (fr.set i (some z)) S2
  | _ => .bad
def iaddV : SV → SV → Store → Rs SV
  | .d (.int i), .d (.int j), S => .ok (.d (.int (i + j))) S
  | .d (.str x), .d (.str y), S => if x.length + y.length ≤ sizeLine then .ok (.d (.str (x ++ y))) S else .bad
  | _, _, _ => .bad
end
end PD
namespace PD
open PySem PySem.Spec PyProof.Rows L2
def Gd (base : Heap) (A : Around) : Prop := A.guards = some [] ∧ (base.get? sysModules).isSome = true
structure FnG (P : Program) (w : World) (K : PySem.W.Frag) (mg : Str → Option Value) (base : Heap) (k : Nat) (f : Addr) (fd : FuncData) (ps : List Str) (sp : Sp) : Prop where
  len : ∀ vs H Q E, sp vs H Q E → vs.length = ps.length
  run : ∀ (A : Around) (outer : List Env) (s : Shared) (H : Hp) (args : Args) (us : List Value) (vs : List V) (Q : VK) (E : XK), Room k A → Gd base A → Env0 P w K mg base A outer s H →
    BindsTo s fd args (ps.zip us) → Vals vs us → sp vs H Q E → codeAny (model P w) A (.call (.ref f) args) (CR (L2.CX P w) outer P w H s Q E) s
section
variable {P : Program} {w : World} {K : PySem.W.Frag} {mg : Str → Option Value} {base : Heap} {k : Nat} {f : Addr} {fd : FuncData} {ps : List Str} {sp : Sp}
theorem FnG.mono {j : Nat} (F : FnG P w K mg base j f fd ps sp) (h : j ≤ k) : FnG P w K mg base k f fd ps sp :=
  ⟨F.len, fun A outer s H args us vs Q E hr => F.run A outer s H args us vs Q E (hr.mono h)⟩
theorem deeper_guards {A : Around} {env : Env} (h : A.guards = some []) : (A.deeper env).guards = some [] := by
  first
    | exact h
    | (unfold Around.deeper; exact h)
    | (simp [Around.deeper, h])
theorem fnG_of {x qual : Str} {st : Stmt} {N : List Str} (F : Fun K x qual st f fd) (Sc : FnScope N ps (defScope st)) (len : ∀ vs H Q E, sp vs H Q E → vs.length = ps.length)
    (hbody : ∀ (cdv : Value) (A : Around) (outer : List Env) (s : Shared) (H : Hp) (vs : List V) (Q : VK) (E : XK), Room k (A.deeper (envOfC qual (defScope st) s.heap.objs.size f cdv)) → Gd base (A.deeper (envOfC qual (defScope st) s.heap.objs.size f cdv)) → sp vs H Q E →
      ∃ t, PSs (cxOf (L2.CX P w) P w K mg base N qual (defScope st) f cdv A outer s H E) (defBody st) t ∧ t { nx := fun _ H' => Q .non H', rt := Q } (start N vs) H) :
    FnG P w K mg base (k + 1) f fd ps sp := by
  obtain ⟨oc, od, kV, doc, pm, an, cdv, ct, osl, rfl, lk, hcd⟩ := F.ex
  constructor
  · exact len
  intro A outer s H args us vs Q E hr hgd e0 hb r hsp
  have hlen : vs.length = ps.length := len vs H Q E hsp
  have old : ∀ (b : Addr) (o : Obj), base.get? b = some o → s.heap.get? b = some o := fun b o e => (e0.bs b o e).1
  have inK : K.In s.heap := e0.mod.kin.keeps old
  have cellsOk : ∀ y ∈ ps.zip us, (defScope st).names.lookup y.1 = some .local ∨
      ((defScope st).names.lookup y.1 = some .cell ∧ ((cellsFrom (s.heap.objs.size + 1) (defScope st).names []).lookup y.1).isSome = true) := by
    rintro ⟨n, v⟩ hy
    cases Sc.par n (List.of_mem_zip hy).1 with
    | inl q => exact Or.inl q
    | inr q => exact Or.inr ⟨q, PySem.W.cellsFrom_some _ _ _ (Or.inl q)⟩
  refine codeAny_call_function hr.depth (inK _ _ lk) rfl Sc.co Sc.gen rfl (PySem.W.codeRec_of inK hcd) ?_
  refine hb _ _ _ _ (wpAny_newFunctionEnv_cells Sc.kind cellsOk ?_)
  intro env he s1 x
  subst he
  refine ⟨(e0.mod.nolimit.keeps old).keeps x.toInCall.keep, codeAny_func ?_⟩
  obtain ⟨t, ht, hq⟩ := hbody cdv A outer s H vs Q E (hr.deeper _) ⟨deeper_guards hgd.1, hgd.2⟩ hsp
  have I0 := inv_start (CX := L2.CX P w) (E := E) (cd := cdv) (mg := mg) Sc hr.hd e0 hlen r x
  refine wpAny_mono (ht.run [] s1 (start N vs) H _ I0 hq) ?_ (fun e s' hs => hs)
  intro fl s' hs
  cases fl with
  | ret u =>
    obtain ⟨v, σ', H', J, rv, q⟩ := hs
    exact ⟨v, H', J.os, J.bare, J.base, J.hok, rv, q⟩
  | next =>
    obtain ⟨σ', H', J, q⟩ := hs
    exact ⟨V.non, H', J.os, J.bare, J.base, J.hok, rfl, q⟩
  | brk => exact hs.elim fun _ z => z.elim fun _ z => z.2.elim
  | cont => exact hs.elim fun _ z => z.elim fun _ z => z.2.elim
end
abbrev FN := List SV → Store → Rs SV
structure Ent (G : Gh) (H : Hp) (G' : Gh) (H' : Hp) : Prop where
  h0 : G'.H0 = H
  f0 : G'.F0 = G.F
  r0 : G'.rho0 = G.rho
def spOf (M : Mo) (n : Nat) (F : FN) : Sp := fun vs H Q E => ∃ S G xs, Base M H S G ∧ RpSs M G H xs vs ∧ xs.length = n ∧ F xs S ≠ .bad ∧
  (∀ z S', F xs S = .ok z S' → ∀ u H' G', Base M H' S' G' → Ent G H G' H' → RpS M G' H' z u → Q u H') ∧
  (∀ x S', F xs S = .exc x S' → ∀ H' G' cls d, Base M H' S' G' → Ent G H G' H' → XRep M G' H' x cls d → E cls d H')
def enter (G : Gh) (H : Hp) : Gh := { G with H0 := H, F0 := G.F, rho0 := G.rho }
def leave (G G' : Gh) : Gh := { G' with H0 := G.H0, F0 := G.F0, rho0 := G.rho0 }
section
variable {M : Mo} {G G' : Gh} {H H' : Hp} {S S' : Store}
theorem Base.enter (B : Base M H S G) : Base M H S (enter G H) :=
  ⟨B.len, B.ob, B.nd, B.frz, fun a o e _ => e, fun a h => h, fun a h => .inl h, ⟨[], by simp [PD.enter]⟩, fun a h => .inl h⟩
theorem Base.leave (B : Base M H S G) (B' : Base M H' S' G') (e : Ent G H G' H') : Base M H' S' (leave G G') ∧ Stp G H (leave G G') H' := by
  have keep : ∀ a o, H a = some o → a ∉ G.rho → H' a = some o := fun a o q n => B'.keep0 a o (by rw [e.h0]; exact q) (by rw [e.r0]; exact n)
  have newF : ∀ a, G'.F a → G.F a ∨ H a = none := fun a f => by
    have q := B'.newF a f
    rw [e.f0, e.h0] at q
    exact q
  have newR : ∀ a, a ∈ G'.rho → a ∈ G.rho ∨ H a = none := fun a m => by
    have q := B'.newR a m
    rw [e.r0, e.h0] at q
    exact q
  have sub : ∀ a, G.F a → G'.F a := fun a f => B'.sub0 a (by rw [e.f0]; exact f)
  have pre : ∃ more, G'.rho = G.rho ++ more := by
    obtain ⟨more, q⟩ := B'.pre
    exact ⟨more, by rw [q, e.r0]⟩
  refine ⟨⟨B'.len, B'.ob, B'.nd, B'.frz, fun a o q n => ?_, fun a f => sub a (B.sub0 a f), fun a f => ?_, ?_, fun a m => ?_⟩, ⟨rfl, rfl, rfl, sub, newF, pre, newR, keep, fun a q => ?_⟩⟩
  · have n' : a ∉ G.rho := fun m => (B.newR a m).elim n fun z => by
      have q' : G.H0 a = some o := q
      rw [z] at q'; cases q'
    exact keep a o (B.keep0 a o q n) n'
  · rcases newF a f with h | h
    · exact B.newF a h
    · exact .inr (B.new0 h).1
  · obtain ⟨m1, e1⟩ := B.pre
    obtain ⟨m2, e2⟩ := pre
    exact ⟨m1 ++ m2, by show G'.rho = G.rho0 ++ (m1 ++ m2); rw [e2, e1, List.append_assoc]⟩
  · rcases newR a m with h | h
    · exact B.newR a h
    · exact .inr (B.new0 h).1
  · cases p : H a with
    | none => rfl
    | some o =>
      by_cases m : a ∈ G.rho
      · obtain ⟨more, ep⟩ := pre
        obtain ⟨x, hx⟩ := B'.rho_get (a := a) (by rw [ep]; exact List.mem_append_left _ m)
        rcases hx.some with ⟨_, z⟩ | ⟨_, _, _, z⟩ <;> (rw [q] at z; cases z)
      · rw [keep a o p m] at q; cases q
end
section
variable {X : Cx} {W : WX} {O : Own} {k : Nat} {f : Addr} {fd : FuncData} {ps : List Str} {sp : Sp} {x : Str} {p pos : Pos} {e : Expr} {es : List Expr}
abbrev Lets (X : Cx) (W : WX) : Prop := Takes X W
theorem run_g {pins : List (Addr × Obj)} {σ : L2.St} {H : Hp} {s : Shared} {Q : VK} {us : List Value} {vs : List V} {ds : List Value} {dvs : List V} (F : FnG X.prog X.w X.K X.mg X.base k f fd ps sp) (hr : Room k X.A) (hgd : Gd X.base X.A)
    (hb : Binds X.K fd ps ds) (hd : Vals dvs ds) (tk : Lets X W) (I : Inv X pins σ H s) (r : Vals vs us) (h : sp (vs ++ dvs) H Q (WE W σ)) : wpAny (model X.prog X.w) X.A (call (.ref f) us) (EP X pins σ Q) X.xe s := by
  have r2 := r.append hd
  have hl : (us ++ ds).length = ps.length := r2.length.symm.trans (F.len _ _ _ _ h)
  refine wpAny_call (codeAny_mono (F.run X.A X.stack s H ⟨us, []⟩ (us ++ ds) (vs ++ dvs) Q (WE W σ) hr hgd I.env0 (hb s us I.kIn hl) r2 h) ?_)
  intro r s' hq
  match r, hq with
  | .error e, hq => exact passAt tk σ pins H s e s' I hq
  | .ok (.ret u), hq => exact I.after hq
  | .ok .next, hq => exact hq.elim
  | .ok .brk, hq => exact hq.elim
  | .ok .cont, hq => exact hq.elim
theorem pe_g {t : TA} {ds : List Value} {dvs : List V} (F : FnG X.prog X.w X.K X.mg X.base k f fd ps sp) (hr : Room k X.A) (hgd : Gd X.base X.A) (hg : Gl X x) (hm : X.mg x = some (.ref f)) (hk : PySem.W.keepIn X.K (.ref f) = true) (hb : Binds X.K fd ps ds) (hd : Vals dvs ds) (tk : Lets X W)
    (ha : PA X (e :: es) t) (hdb : (x == ("__debug__" : Str)) = false := by decide) (he : starEach (e :: es) X.env = (false, eval e X.env) :: starEach es X.env := by rfl) (hpl : (backTo pos (starEach es X.env)).any (·.1) = false := by rfl) :
    PE X (.Call (.Name x p) (e :: es) [] pos) (fun σ H Q => t σ H fun vs H1 => sp (vs ++ dvs) H1 Q (WE W σ)) := by
  constructor
  intro pins s σ H Q I h
  refine wpAny_Call_Name_kw (ld_glob I hg hm (PySem.W.callWith_K (h₀ := X.base) I.ok.mod.kin hk ?_ he hpl) hdb)
  refine thn (ha.run pos pins s σ H _ I h) ?_
  rintro us s1 ⟨vs, H1, I1, r, q⟩
  exact ⟨I1.kIn, run_g F hr hgd hb hd tk I1 r q⟩
theorem sp_of {n : Nat} {F : FN} {σ : L2.St} {H : Hp} {fr : Fr} {S : Store} {G : Gh} {Q : VK} {xs : List SV} {vs : List V} (R : Rel (.of X) O σ H fr S G) (rs : RpSs (.of X) G H xs vs) (hn : xs.length = n) (h : Pst (.of X) W O σ H fr G (F xs S) (RpS (.of X)) Q) :
    spOf (.of X) n F vs H Q (WE W σ) := by
  refine ⟨S, G, xs, R.base, rs, hn, h.good, fun z S' e u H' G' B' en r => ?_, fun x S' e H' G' cls d B' en r => ?_⟩
  · obtain ⟨B2, st⟩ := R.base.leave B' en
    exact h.ok z S' e u H' _ (R.step st B2) st (show RpS (.of X) (leave G G') H' z u from by cases z <;> exact r)
  · obtain ⟨B2, st⟩ := R.base.leave B' en
    exact h.exc x S' e H' _ cls d (R.step st B2) st r
def eCall (n : Nat) (F : FN) (m : AM) : EM := fun fr S => (m fr S).bind fun xs S1 => if xs.length = n then F xs S1 else .bad
theorem ce_call {n : Nat} {F : FN} {m : AM} (Fn : FnG X.prog X.w X.K X.mg X.base k f fd ps (spOf (.of X) n F)) (hr : Room k X.A) (hgd : Gd X.base X.A) (hg : Gl X x) (hm : X.mg x = some (.ref f)) (hk : PySem.W.keepIn X.K (.ref f) = true) (hb : Binds X.K fd ps []) (tk : Lets X W)
    (ha : CA X W O (e :: es) m) (hdb : (x == ("__debug__" : Str)) = false := by decide) (he : starEach (e :: es) X.env = (false, eval e X.env) :: starEach es X.env := by rfl) (hpl : (backTo pos (starEach es X.env)).any (·.1) = false := by rfl) :
    CE X W O (.Call (.Name x p) (e :: es) [] pos) (eCall n F m) :=
  peI (pe_g Fn hr hgd hg hm hk hb .nil tk ha hdb he hpl) fun σ H Q ⟨fr, S, G, R, h⟩ => ⟨fr, S, G, R, h.split fun xs S1 vs H1 G1 R1 st1 rs h1 => by
    rw [List.append_nil]
    by_cases hn : xs.length = n
    · rw [if_pos hn] at h1
      exact sp_of R1 rs hn h1
    · rw [if_neg hn] at h1
      exact h1.not_bad.elim⟩
end
def bodyF (N : Nat) (m : SM) : FN := fun xs S => match m (xs.map some ++ List.replicate (N - xs.length) none) S with
  | .rt v S' => .ok v S'
  | .nx _ S' => .ok (.d .none) S'
  | .exc x _ S' => .exc x S'
  | _ => .bad
section
variable {P : Program} {w : World} {K : PySem.W.Frag} {mg : Str → Option Value} {base : Heap} {k : Nat} {f : Addr} {fd : FuncData} {ps : List Str}
theorem Own.no (n i : Nat) : ¬ Own.has (List.replicate n false) i := fun h => by
  unfold Own.has at h
  rw [List.getElem?_replicate] at h
  split at h <;> cases h
structure Ctx (X : Cx) (W : WX) (k : Nat) : Prop where
  hr : Room k X.A
  hs : Gd X.base X.A
  tk : Lets X W
  ps : PassesOwn (model X.prog X.w) X.A X.env X.xe
theorem def_ok {x qual : Str} {st : Stmt} {N : List Str} {m : SM} {O' : Own} {n : Nat} (F : Fun K x qual st f fd) (Sc : FnScope N ps (defScope st)) (hn : ps.length = n)
    (hbody : ∀ (cdv : Value) (A : Around) (outer : List Env) (s : Shared) (H : Hp) (E : XK), Ctx (cxOf (L2.CX P w) P w K mg base N qual (defScope st) f cdv A outer s H E) (fun cls d _ H => E cls d H) k →
      CSs (cxOf (L2.CX P w) P w K mg base N qual (defScope st) f cdv A outer s H E) (fun cls d _ H => E cls d H) [] (List.replicate N.length false) (defBody st) m O') :
    FnG P w K mg base (k + 1) f fd ps (spOf ⟨w, K, mg⟩ n (bodyF N.length m)) := by
  have rlen : ∀ {M : Mo} {G : Gh} {H : Hp} {xs : List SV} {vs : List V}, RpSs M G H xs vs → xs.length = vs.length := fun r => Paired.length r
  refine fnG_of F Sc (fun vs H Q E ⟨S, G, xs, _, rs, hl, _⟩ => by rw [← rlen rs, hl, hn]) fun cdv A outer s H vs Q E hr hgd ⟨S, G, xs, B, rs, hl, good, ok, exc⟩ => ?_
  refine ⟨_, hbody cdv A outer s H E ⟨hr, hgd, takes_of rfl rfl rfl rfl, passes_of rfl⟩, ?_⟩
  have hlN : ps.length ≤ N.length := by
    have := congrArg List.length Sc.pre
    rw [List.length_take] at this
    omega
  have hvl := rlen rs
  have getM : ∀ (i : Nat) (v : SV), (xs.map some ++ List.replicate (N.length - xs.length) none)[i]? = some (some v) → xs[i]? = some v := fun i v e => by
    by_cases hi : i < xs.length
    · rw [List.getElem?_append_left (by simpa using hi), List.getElem?_map, List.getElem?_eq_getElem hi] at e
      rw [List.getElem?_eq_getElem hi]
      simpa using e
    · rw [List.getElem?_append_right (by simpa using hi), List.getElem?_replicate] at e
      split at e <;> cases e
  have paired_get : ∀ {xs : List SV} {vs : List V} {i : Nat} {v : SV}, RpSs ⟨w, K, mg⟩ G H xs vs → xs[i]? = some v → ∃ u, vs[i]? = some u ∧ RpS ⟨w, K, mg⟩ G H v u := by
    intro xs vs i v r
    induction r generalizing i with
    | nil => intro e; simp at e
    | cons q t ih =>
      intro e
      cases i with
      | zero =>
        simp at e
        subst e
        exact ⟨_, by simp, q⟩
      | succ i =>
        obtain ⟨u, h1, h2⟩ := ih (by simpa using e)
        exact ⟨u, by simpa using h1, h2⟩
  have R : Rel ⟨w, K, mg⟩ (List.replicate N.length false) (L2.start N vs) H (xs.map some ++ List.replicate (N.length - xs.length) none) S (enter G H) := by
    refine ⟨B.enter, ?_, fun i v e => ?_, fun i j v w' a oi => absurd oi (Own.no _ _)⟩
    · unfold L2.start
      simp [hvl]
    · obtain ⟨u, h1, h2⟩ := paired_get rs (getM i v e)
      have hi : i < vs.length := (List.getElem?_eq_some_iff.mp h1).1
      refine ⟨u, ?_, fun oi => absurd oi (Own.no _ _), fun _ => by cases v <;> exact h2⟩
      unfold L2.start
      rw [List.getElem?_append_left (by simpa using hi), List.getElem?_map, h1]
      rfl
  have ent : ∀ {G' : Gh} {H' : Hp}, Adv (enter G H) H G' H' → Ent G H G' H' := fun a => ⟨a.h0, a.f0, a.r0⟩
  refine ⟨_, S, enter G H, R, fun e => good ?_, fun fr' S' e σ' H' G' R' a => ?_, fun fr' S' e => ?_, fun fr' S' e => ?_, fun v S' e u H' G' B' a r => ?_, fun x fr' S' e σ' H' G' cls d R' a r => ?_⟩
  · unfold bodyF; rw [e]
  · exact ok (.d .none) S' (by unfold bodyF; rw [e]) .non H' G' R'.base (ent a) .non
  · exact (good (by unfold bodyF; rw [e])).elim
  · exact (good (by unfold bodyF; rw [e])).elim
  · exact ok v S' (by unfold bodyF; rw [e]) u H' G' B' (ent a) r
  · exact exc x S' (by unfold bodyF; rw [e]) H' G' cls d R'.base (ent a) r
theorem def_bad {n : Nat} (hl : ps.length = n) : FnG P w K mg base k f fd ps (spOf ⟨w, K, mg⟩ n fun _ _ => .bad) :=
  ⟨fun vs H Q E ⟨_, _, _, _, _, _, g, _⟩ => (g rfl).elim, fun A outer s H args us vs Q E _ _ _ _ _ ⟨_, _, _, _, _, _, g, _⟩ => (g rfl).elim⟩
end
end PD
namespace PD
open PySem PySem.Spec PyProof.Rows L2
section
variable {M : Mo} {O : Own} {σ : L2.St} {H H1 : Hp} {fr : Fr} {S : Store} {G G1 : Gh}
theorem Rel.alloc (R1 : Rel M O σ H1 fr S G1) (st : Stp G H G1 H1) {p : Addr} {o : Ob} (hp : H p = none) (h0 : G1.H0 p = none) (nf : ¬ G1.F p) (nr : p ∉ G1.rho) (ob : ObR M G1 H1 o p) (no : ∀ i v, O.has i → fr[i]? = some (some v) → σ[i]? ≠ some (some (V.ref p))) :
    ∃ G2, Rel M O σ H1 fr (S ++ [o]) G2 ∧ Stp G H G2 H1 ∧ RpS M G2 H1 (.obj S.length) (.ref p) := by
  have k : Keeps G1.F G1.F H1 H1 := Keeps.refl
  let G2 : Gh := { G1 with rho := G1.rho ++ [p] }
  have pr : ∃ more, G2.rho = G1.rho ++ more := ⟨[p], rfl⟩
  have obk : ∀ {o a}, ObR M G1 H1 o a → ObR M G2 H1 o a := fun {o a} q => by
    cases o with
    | lst ds =>
      obtain ⟨xs, e, r⟩ := q
      exact ⟨xs, e, RpSs.keep (G' := G2) k pr r⟩
    | ins C fs =>
      obtain ⟨ca, dx, vs, e1, e2, r⟩ := q
      exact ⟨ca, dx, vs, e1, e2, RpF.keep (G' := G2) k pr r⟩
  have B : Base M H1 (S ++ [o]) G2 := by
    refine ⟨by show (S ++ [o]).length = (G1.rho ++ [p]).length; simp [R1.base.len], fun r x a h1 h2 => ?_, ?_, fun a f => ⟨fun m => ?_, (R1.base.frz a f).2⟩, R1.base.keep0, R1.base.sub0, R1.base.newF, ?_, fun a m => ?_⟩
    · by_cases hr : r < S.length
      · rw [List.getElem?_append_left hr] at h1
        have hr' : r < G1.rho.length := by rw [← R1.base.len]; exact hr
        have h2' : (G1.rho ++ [p])[r]? = some a := h2
        rw [List.getElem?_append_left hr'] at h2'
        exact obk (R1.base.ob r x a h1 h2')
      · rw [List.getElem?_append_right (by omega)] at h1
        have h2' : (G1.rho ++ [p])[r]? = some a := h2
        rw [List.getElem?_append_right (by rw [← R1.base.len]; omega)] at h2'
        have e1 : r - S.length = 0 := by
          have := (List.getElem?_eq_some_iff.mp h1).1
          simp at this
          omega
        rw [e1] at h1
        have e2 : r - G1.rho.length = 0 := by rw [← R1.base.len]; exact e1
        rw [e2] at h2'
        simp at h1 h2'
        subst h1 h2'
        exact obk ob
    · show (G1.rho ++ [p]).Nodup
      rw [List.nodup_append]
      exact ⟨R1.base.nd, by simp, fun a ha b hb => by
        simp at hb
        subst hb
        intro e
        exact nr (by rw [← e]; exact ha)⟩
    · rcases List.mem_append.mp (show a ∈ G1.rho ++ [p] from m) with q | q
      · exact (R1.base.frz a f).1 q
      · simp at q
        subst q
        exact nf f
    · obtain ⟨more, e⟩ := R1.base.pre
      exact ⟨more ++ [p], by show G1.rho ++ [p] = G1.rho0 ++ (more ++ [p]); rw [e, List.append_assoc]⟩
    · rcases List.mem_append.mp (show a ∈ G1.rho ++ [p] from m) with q | q
      · exact R1.base.newR a q
      · simp at q
        subst q
        exact .inr h0
  refine ⟨G2, ⟨B, R1.len, fun i v e => ?_, R1.own⟩, ⟨st.h0, st.f0, st.r0, st.sub, st.newF, ?_, fun a m => ?_, st.keep, st.there⟩, ⟨p, ?_, rfl⟩⟩
  · obtain ⟨u, h1, h2, h3⟩ := R1.slot i v e
    refine ⟨u, h1, fun oi => ?_, fun oi => RpS.keep (G' := G2) k pr (h3 oi)⟩
    obtain ⟨a, e1, nfa, nra, h0a, c⟩ := h2 oi
    refine ⟨a, e1, nfa, fun m => ?_, h0a, c⟩
    rcases List.mem_append.mp (show a ∈ G1.rho ++ [p] from m) with q | q
    · exact nra q
    · simp at q
      subst q
      subst e1
      exact no i v oi e h1
  · obtain ⟨more, e⟩ := st.pre
    exact ⟨more ++ [p], by show G1.rho ++ [p] = _; rw [e, List.append_assoc]⟩
  · rcases List.mem_append.mp (show a ∈ G1.rho ++ [p] from m) with q | q
    · exact st.newR a q
    · simp at q
      subst q
      exact .inr hp
  · show (G1.rho ++ [p])[S.length]? = some p
    rw [R1.base.len, List.getElem?_append_right (Nat.le_refl _)]
    simp
theorem Rel.storeSet (R : Rel M O σ H fr S G) {r : Nat} {a : Addr} {o : Ob} {ho : HO} (hr : G.rho[r]? = some a) (ob : Keeps G.F G.F H (upd H a ho) → ObR M G (upd H a ho) o a) : Rel M O σ (upd H a ho) fr (S.set r o) G ∧ Adv G H G (upd H a ho) := by
  have ha : a ∈ G.rho := List.mem_of_getElem? hr
  have nf : ∀ b, G.F b → b ≠ a := fun b f z => (R.base.frz b f).1 (by rw [z]; exact ha)
  have k : Keeps G.F G.F H (upd H a ho) := ⟨fun _ h => h, fun b u f h => by rw [upd_ne (nf b f)]; exact h, fun b xs h => by rw [upd_ne (show b ≠ a from fun z => R.base.no_tup h (by rw [z]; exact ha))]; exact h,
    fun b x u h => by rw [upd_ne (show b ≠ a from fun z => R.base.no_frz h (by rw [z]; exact ha))]; exact h⟩
  have adv : Adv G H G (upd H a ho) := ⟨rfl, rfl, rfl, k, ⟨[], by simp⟩⟩
  have B : Base M (upd H a ho) (S.set r o) G := by
    refine ⟨by rw [List.length_set]; exact R.base.len, fun q x b h1 h2 => ?_, R.base.nd, fun b f => ⟨(R.base.frz b f).1, ?_⟩, fun b u h m => ?_, R.base.sub0, R.base.newF, R.base.pre, R.base.newR⟩
    · have hrl : r < G.rho.length := (List.getElem?_eq_some_iff.mp hr).1
      by_cases e : r = q
      · subst e
        rw [List.getElem?_set_self (by rw [R.base.len]; exact hrl)] at h1
        rw [hr] at h2
        cases h1
        cases h2
        exact ob k
      · rw [List.getElem?_set_ne e] at h1
        have nb : b ≠ a := fun z => by
          subst z
          exact e ((List.getElem?_inj hrl R.base.nd).mp (hr.trans h2.symm))
        have q := R.base.ob q x b h1 h2
        cases x with
        | lst ds =>
          obtain ⟨xs, e, r⟩ := q
          exact ⟨xs, by rw [upd_ne nb]; exact e, RpSs.keep k ⟨[], by simp⟩ r⟩
        | ins C fs =>
          obtain ⟨ca, dx, vs, e1, e2, r⟩ := q
          exact ⟨ca, dx, vs, e1, by rw [upd_ne nb]; exact e2, RpF.keep k ⟨[], by simp⟩ r⟩
    · have q := (R.base.frz b f).2
      unfold FzOk at q ⊢
      rw [upd_ne (nf b f)]
      exact q
    · have nb : b ≠ a := fun z => by
        subst z
        rcases R.base.newR b ha with q | q
        · exact m q
        · rw [q] at h; cases h
      rw [upd_ne nb]
      exact R.base.keep0 b u h m
  refine ⟨⟨B, R.len, fun i v e => ?_, R.own⟩, adv⟩
  obtain ⟨u, h1, h2, h3⟩ := R.slot i v e
  refine ⟨u, h1, fun oi => ?_, fun oi => RpS.keep k ⟨[], by simp⟩ (h3 oi)⟩
  obtain ⟨b, e1, nfb, nrb, h0b, c⟩ := h2 oi
  exact ⟨b, e1, nfb, nrb, h0b, Cont.keep k (fun _ q => by rw [upd_ne (show b ≠ a from fun z => nrb (by rw [z]; exact ha))]; exact q) c⟩
end
def eNew (m : EM) : EM := fun fr S => (m fr S).bind fun v S1 => match v with
  | .d (.list ds) => .ok (.obj S1.length) (S1 ++ [.lst (ds.map .d)])
  | _ => .bad
def mkObj : List SV → Store → Rs SV := fun xs S => if xs.length ≤ sizeLine then .ok (.obj S.length) (S ++ [.lst xs]) else .bad
def sPutO (m mo mi : EM) : SM := fun fr S => (m fr S).toS fr fun v S1 => (mo fr S1).toS fr fun o S2 => (mi fr S2).toS fr fun i S3 => match o, i with
  | .obj r, .d (.int k) => (match S3[r]? with
    | some (.lst xs) => (match ixN xs.length k with
      | some j => .nx fr (S3.set r (.lst (xs.set j v)))
      | none => .bad)
    | _ => .bad)
  | _, _ => .bad
theorem RpSs.set {M : Mo} {G : Gh} {H : Hp} {x : SV} {v : V} (r : RpS M G H x v) : ∀ {xs : List SV} {vs : List V} (j : Nat), RpSs M G H xs vs → RpSs M G H (xs.set j x) (vs.set j v)
  | _, _, _, .nil => .nil
  | _, _, 0, .cons _ t => .cons r t
  | _, _, j + 1, .cons q t => .cons q (RpSs.set r j t)
theorem RpAll.sv {M : Mo} {G : Gh} {H : Hp} : ∀ {ds : List PyData} {vs : List V}, RpAll M G.F H ds vs → RpSs M G H (ds.map .d) vs
  | _, _, .nil => .nil
  | _, _, .cons r t => .cons r (RpAll.sv t)
section
variable {X : Cx} {W : WX} {L O : Own} {pos : Pos} {e : Expr} {st : Stmt}
theorem ce_new {m : EM} (h : CN X W O e m) : CE X W O e (eNew m) := by
  refine peI h fun σ H Q ⟨fr, S, G, R, h⟩ => ⟨fr, S, G, R, fun e => h.good (by unfold eNew; rw [e]; rfl), fun z S' e u H' G' R' st ⟨a, eu, t⟩ => ?_, fun x S' e => h.exc x S' (by unfold eNew; rw [e]; rfl)⟩
  subst eu
  rcases t.cont with ⟨ds, vs, ez, q, r⟩ | ⟨ds, _, ez, _⟩ | ⟨ds, _, ez, _⟩
  · subst ez
    obtain ⟨G2, R2, st2, r2⟩ := R'.alloc (o := .lst (ds.map .d)) st t.new (by rw [st.h0]; exact (R.base.new0 t.new).1) t.nf t.nr ⟨vs, q, r.sv⟩ fun i v o e1 e2 => R.own_there o e1 e2 t.new
    exact h.ok _ _ (by unfold eNew; rw [e]; rfl) _ H' G2 R2 st2 r2
  · subst ez
    exact (h.good (by unfold eNew; rw [e]; rfl)).elim
  · subst ez
    exact (h.good (by unfold eNew; rw [e]; rfl)).elim
theorem ce_obj {es : List Expr} {m : AM} (h : CA X W O es m) : CE X W O (.List es pos) (eA mkObj m) := by
  refine peI (pe_lst h) fun σ H Q ⟨fr, S, G, R, h⟩ => ⟨fr, S, G, R, h.split fun xs S1 us H1 G1 R1 st1 rs h1 => ?_⟩
  unfold mkObj at h1
  split at h1
  · rename_i hz
    have hl : xs.length = us.length := Paired.length rs
    refine ⟨by rw [← hl]; exact hz, fun p hp => ?_⟩
    obtain ⟨B, st⟩ := R1.base.newT (o := .lst us) hp
    obtain ⟨h0, nr, nf⟩ := R1.base.new0 hp
    obtain ⟨G2, R2, st2, r2⟩ := (R1.step st B).alloc (o := .lst xs) st hp h0 nf nr ⟨us, upd_same, R1.base.rpss st rs⟩ fun i v o e1 e2 => R1.own_there o e1 e2 hp
    exact h1.ok _ _ rfl _ _ G2 R2 st2 r2
  · exact h1.not_bad.elim
theorem cs_putO {m mo mi : EM} (h : PS X st (tAsg (tM (.of X) W O m) (gSub (tM (.of X) W O mo) (tM (.of X) W O mi) rSetL))) : CS X W L O st (sPutO m mo mi) O := by
  refine psI h fun D σ H ⟨fr, S, G, R, h⟩ => ⟨fr, S, G, R, h.expr R fun v S1 u H1 G1 R1 st1 a1 rv h1 => ⟨fr, S1, G1, R1, h1.expr R1 fun o S2 ou H2 G2 R2 st2 a2 ro h2 => ⟨fr, S2, G2, R2, h2.expr R2 fun i S3 iu H3 G3 R3 st3 a3 ri h3 => ?_⟩⟩⟩
  split at h3
  · split at h3
    · rename_i hs
      split at h3
      · rename_i hj
        have ro3 := R2.base.rps st3 ro
        have rv3 := R1.base.rps (st2.trans st3) rv
        cases ri
        obtain ⟨a, rfl, ⟨vs, e, rs⟩, hr⟩ := R3.base.store_at hs ro3
        have hl : _ = vs.length := Paired.length rs
        obtain ⟨R4, a4⟩ := R3.storeSet (o := .lst (List.set _ _ v)) (ho := .lst (vs.set _ u)) hr fun k => ⟨vs.set _ u, upd_same, RpSs.keep k ⟨[], by simp⟩ (RpSs.set rv3 _ rs)⟩
        exact ⟨a, vs, _, _, rfl, rfl, e, by rw [← hl]; exact hj, h3.nx _ _ rfl _ _ G3 R4 a4⟩
      · exact (h3.good rfl).elim
    · exact (h3.good rfl).elim
  · exact (h3.good rfl).elim
end
end PD
namespace PD
open PySem PySem.Spec PyProof.Rows L2
def enumL (xs : List PyData) : List SV := (List.range xs.length).zipWith (fun i x => SV.d (.tuple [.int (i : Nat), x])) xs
def enumV : List SV → Store → Rs (List SV)
  | [.d (.list xs)], S => .ok (enumL xs) S
  | [.d (.tuple xs)], S => .ok (enumL xs) S
  | [.d (.str z)], S => .ok (enumL (z.cps.toList.map fun c => .str ⟨#[c]⟩)) S
  | _, _ => .bad
end PD
namespace PD
open PySem PySem.Spec PyProof.Rows L2
def strsOf : List PyData → Option (List Str)
  | [] => some []
  | .str x :: r => (strsOf r).map (x :: ·)
  | _ :: _ => none
theorem strs_rel {M : Mo} {F : Addr → Prop} {H : Hp} : ∀ {ds : List PyData} {vs : List V} {ys : List Str}, RpAll M F H ds vs → strsOf ds = some ys → vs = ys.map V.str
  | [], _, ys, .nil, e => by cases e; rfl
  | .str x :: r, _, ys, .cons q t, e => by
    cases h : strsOf r with
    | none => simp [strsOf, h] at e
    | some zs =>
      have e' : x :: zs = ys := by simpa [strsOf, h] using e
      subst e'
      cases q
      rw [strs_rel t h]
      rfl
  | .none :: _, _, _, _, e => by simp [strsOf] at e
  | .bool _ :: _, _, _, _, e => by simp [strsOf] at e
  | .int _ :: _, _, _, _, e => by simp [strsOf] at e
  | .list _ :: _, _, _, _, e => by simp [strsOf] at e
  | .tuple _ :: _, _, _, _, e => by simp [strsOf] at e
  | .dict _ :: _, _, _, _, e => by simp [strsOf] at e
def joinV : SV → SV → Store → Rs SV
  | .d (.str a), .d (.list ds), S => match strsOf ds with
    | some ys => if (ys.map (·.length)).sum + ys.length * a.length ≤ 16777216 then .ok (.d (.str (Txt.join a ys))) S else .bad
    | none => .bad
  | .d (.str a), .d (.tuple ds), S => match strsOf ds with
    | some ys => if (ys.map (·.length)).sum + ys.length * a.length ≤ 16777216 then .ok (.d (.str (Txt.join a ys))) S else .bad
    | none => .bad
  | _, _, _ => .bad
def eM1 (p : SV → SV → Store → Rs SV) (a b : EM) : EM := fun fr S => (a fr S).bind fun x S1 => match x with
  | .d (.str _) => (b fr S1).bind fun y S2 => p x y S2
  | _ => .bad
section
variable {X : Cx} {W : WX} {O : Own} {pos apos : Pos}
theorem ce_join {o e : Expr} {mo me : EM} (ho : CV X W O o mo) (he : CV X W O e me) (hs : starEach [e] X.env = [(false, eval e X.env)] := by rfl) (hbase : attributeBase o "join" X.env (eval o X.env) = eval o X.env := by rfl) (hline : (apos.endLine == pos.line) = true := by rfl) :
    CE X W O (.Call (.Attribute o "join" apos) [e] [] pos) (eM1 joinV mo me) :=
  peI (pe_join ho he hs hbase hline) fun σ H Q ⟨fr, S, G, R, h⟩ => ⟨fr, S, G, R, h.split fun x S1 u H1 G1 R1 st1 rx h1 => by
    split at h1
    · obtain rfl := rx.str
      refine ⟨⟨_, rfl⟩, fr, S1, G1, R1, h1.split fun y S2 v H2 G2 R2 st2 ry h2 => ?_⟩
      unfold joinV at h2
      split at h2
      · rename_i e1
        cases e1
        split at h2
        · rename_i hy
          split at h2
          · rename_i hz
            obtain ⟨_, _, rfl, q, r⟩ := ry.lst
            obtain rfl := strs_rel r hy
            exact ⟨_, _, _, rfl, rfl, .inl (SqL.of q), hz, h2.here R2 (.str _)⟩
          · exact h2.not_bad.elim
        · exact h2.not_bad.elim
      · rename_i e1
        cases e1
        split at h2
        · rename_i hy
          split at h2
          · rename_i hz
            obtain ⟨_, _, rfl, q, r⟩ := ry.tup
            obtain rfl := strs_rel r hy
            exact ⟨_, _, _, rfl, rfl, .inr q, hz, h2.here R2 (.str _)⟩
          · exact h2.not_bad.elim
        · exact h2.not_bad.elim
      · exact h2.not_bad.elim
    · exact h1.not_bad.elim⟩
def fmtV : SV → Store → Rs SV
  | .d (.str y), S => if y.length ≤ sizeLine then .ok (.d (.str y)) S else .bad
  | .d (.int i), S => if i.natAbs.log2 < 1920 then .ok (.d (.str (toString i))) S else .bad
  | _, _ => .bad
abbrev JM := Str → Fr → Store → Rs Str
def jN : JM := fun acc _ S => .ok acc S
def jC (m : EM) (r : JM) : JM := fun acc fr S => (m fr S).bind fun x S1 => match x with
  | .d (.str y) => if (acc ++ y).length ≤ sizeLine then r (acc ++ y) fr S1 else .bad
  | _ => .bad
def eJ (r : JM) : EM := fun fr S => (r Str.empty fr S).bind fun z S1 => .ok (.d (.str z)) S1
end
end PD
namespace PD
open PySem PySem.Spec PyProof.Rows L2
def onlyH (K : PySem.W.Frag) (a : Addr) (o : Obj) (ns : List Int) : Hp := fun b => if b = a ∧ (K.lookup a).isNone = true then some (.frz o (.lst (ns.map V.int))) else none
section
variable {K : PySem.W.Frag} {a b : Addr} {o : Obj} {ns : List Int}
theorem onlyH_some {u : HO} (h : onlyH K a o ns b = some u) : b = a ∧ K.lookup a = none ∧ u = .frz o (.lst (ns.map V.int)) := by
  unfold onlyH at h
  split at h
  · rename_i q
    exact ⟨q.1, by simpa using q.2, (Option.some.inj h).symm⟩
  · cases h
def G00 (H : Hp) : Gh := ⟨fun _ => False, [], H, fun _ => False, []⟩
theorem base00 {M : Mo} {H : Hp} : Base M H [] (G00 H) :=
  ⟨rfl, fun r o a h => by simp at h, List.nodup_nil, fun _ h => h.elim, fun _ _ h _ => h, fun _ h => h, fun _ h => h.elim, ⟨[], rfl⟩, fun _ h => by cases h⟩
end
theorem law_run {P : Program} {w : World} {K : PySem.W.Frag} {mg mb : Str → Option Value} {k : Nat} {fa a : Addr} {fd : FuncData} {x : Str} {FL : FN} {s1 : Shared} {vs : List Value} {ns : List Int}
    (kin : K.In s1.heap) (gl : s1.heap.Ns mainGlobals mg) (bu : s1.heap.Ns builtinsNs mb) (bb : ∀ x : Str, x ≠ "__name__" → mb x = bootBuiltins x) (sm : ∃ mm, s1.heap.Ns sysModules mm) (nl : s1.heap.NoLimit) (gn : s1.gens = #[])
    (at_ : s1.heap.get? a = some { cls := .type "list", data := .seq vs.toArray }) (are : IntsAre vs ns) (few : ns.length ≤ sizeLine) (room : Room k callerA)
    (Fn : ∀ base : Heap, K.In base → base.Ns mainGlobals mg → FnG P w K mg base k fa fd [x] (spOf ⟨w, K, mg⟩ 1 FL)) (bind : Binds K fd [x] [])
    (yes : ∃ S, FL [.scr ns] [] = .ok (.d (.bool true)) S) :
    codeAny (model P w) callerA (.call (.ref fa) ⟨[.ref a], []⟩) (fun r s2 => r = .ok (.ret (.bool true)) ∧ OldK s1.heap s2.heap ∧ s2.os = s1.os ∧ AllBare s2.gens) s1 := by
  have ri := vals_ints are
  obtain ⟨S, yes⟩ := yes
  let so : Obj := { cls := .type "list", data := .seq vs.toArray }
  let H : Hp := onlyH K a so ns
  have hH : ∀ {b u}, H b = some u → b = a ∧ K.lookup a = none ∧ u = .frz so (.lst (ns.map V.int)) := fun h => onlyH_some h
  have scr : FzL K (G00 H).F H a (ns.map V.int) := by
    cases q : K.lookup a with
    | none => exact .inr (.inl ⟨so, if_pos ⟨rfl, by rw [q]; rfl⟩⟩)
    | some o =>
      have z := kin a o q
      rw [at_] at z
      cases z
      refine .inr (.inr ⟨_, vs.toArray, _, q, rfl, rfl, rfl, ?_, by simpa using ri⟩)
      rw [List.size_toArray, are.length]
      exact few
  have ok : HOk P w H s1.heap := fun b u z => by
    obtain ⟨rfl, _, rfl⟩ := hH z
    refine ⟨at_, by rw [List.length_map]; exact few, vs, _, ri, at_⟩
  have free : ∀ {b : Addr} {o : Obj} {es : Array DictEntry} {ep : Nat}, s1.heap.get? b = some o → o.data = .dict es ep → H b = none := fun {b o es ep} e d => by
    cases q : H b with
    | none => rfl
    | some u =>
      obtain ⟨rfl, _, _⟩ := hH q
      rw [at_] at e
      cases e
      exact absurd (show Data.seq vs.toArray _ = Data.dict es ep from d) (fun z => by cases z)
  have ns_ : ∀ {b : Addr} {m : Str → Option Value}, s1.heap.Ns b m → (hidT s1.heap H).Ns b m := fun {b m} h => by
    obtain ⟨o, es, ep, e, d, r⟩ := h
    exact ⟨o, es, ep, hidT_get e (free e d), d, r⟩
  have kb : K.In (hidT s1.heap H) := fun b o e => by
    refine hidT_get (kin b o e) ?_
    cases q : H b with
    | none => rfl
    | some u =>
      obtain ⟨rfl, n, _⟩ := hH q
      rw [n] at e
      cases e
  obtain ⟨lim, l1, l2⟩ := nl
  have md : Mod K mg (hidT s1.heap H) := ⟨kb, ns_ gl, ⟨mb, ns_ bu, bb⟩, ⟨lim, ns_ l1, l2⟩⟩
  have nil_ : ∀ b : Addr, b ∉ ([] : List Addr) := fun b z => by cases z
  have e0 : Env0 P w K mg (hidT s1.heap H) callerA [] s1 H := ⟨rfl, md, fun b o e => of_hidT e, Nat.le_of_eq (hidT_size _ _), trivial, fun b hb => (nil_ b hb).elim, ok, .of_eq gn⟩
  have sp0 : spOf ⟨w, K, mg⟩ 1 FL [.ref a] H (fun v _ => v = .bl true) fun _ _ _ => False := by
    refine ⟨[], G00 H, [.scr ns], base00, .cons ⟨a, rfl, scr⟩ .nil, rfl, ?_, fun z S2 e u H2 G2 B2 en r => ?_, fun x S2 e => ?_⟩
    · rw [yes]
      exact fun z => by cases z
    · rw [yes] at e
      cases e
      cases r
      rfl
    · rw [yes] at e
      cases e
  refine codeAny_mono ((Fn _ kb (ns_ gl)).run callerA [] s1 H ⟨[.ref a], []⟩ [.ref a] [.ref a] _ _ room ⟨rfl, by obtain ⟨mm, q⟩ := sm; obtain ⟨o, es, ep, e, _⟩ := ns_ q; rw [e]; rfl⟩ e0 (bind s1 [.ref a] kin rfl) (.cons rfl .nil) sp0) fun r s2 h => ?_
  match r, h with
  | .error e, h =>
    obtain ⟨_, _, _, _, _, _, _, _, _, _, _, _, no⟩ := h
    exact no.elim
  | .ok .next, h => exact h.elim
  | .ok .brk, h => exact h.elim
  | .ok .cont, h => exact h.elim
  | .ok (.ret u), h =>
    obtain ⟨v, H2, os, bare, un, ok2, rv, q⟩ := h
    subst q
    cases rv
    refine ⟨rfl, OldK.of_keep fun b o e => ?_, os, bare⟩
    cases q : H b with
    | none => exact un.keep b o e q (nil_ b) (by simp)
    | some u =>
      obtain ⟨rfl, _, rfl⟩ := hH q
      obtain ⟨z1, _⟩ := ok _ _ q
      obtain ⟨z2, _⟩ := ok2 _ _ (un.frzs _ _ _ q)
      rw [e] at z1
      cases z1
      exact z2
theorem walk_to {l : PySem.W.OpenLaw} {n k : Nat} {q : Program} {loose : List Str} {XP : (Str → Option Value) → Heap → Prop} {YP : World → Heap → Prop} {d : DefRec} {K : Params → PySem.W.Frag} {FL : FN} {x : Str}
    (most : l.most = some n) (few : n ≤ sizeLine) (nod : d.params.defaults = []) (ino : importsNone q = true) (room : Room k callerA) (kin : ∀ (w : World) (h : Heap), YP w h → (K w.params).In h)
    (Fn : ∀ (w : World) (mg : Str → Option Value) (fa : Addr) (h : Heap), (K w.params).In h → h.Ns mainGlobals mg → mg d.name = some (.ref fa) →
      ∃ fd : FuncData, Binds (K w.params) fd [x] [] ∧ ∀ base : Heap, (K w.params).In base → base.Ns mainGlobals mg → FnG l.prog w (K w.params) mg base k fa fd [x] (spOf ⟨w, K w.params, mg⟩ 1 FL))
    (yes : ∀ ns : List Int, ns.length ≤ n → ∃ S, FL [.scr ns] [] = .ok (.d (.bool true)) S) : PySem.W.WalkO q loose XP YP l.row.toRowW d [] (fun f vs => PySem.call f vs) :=
  Att.attach_call most nod fun w s0 s1 mg mb fa o pm cd doc a vs ns G Y ho hd hcd hmg hobj hints hlen hg => by
    obtain ⟨fd, hb, hF⟩ := Fn w mg fa s1.heap (kin w _ Y) G.T.g hmg
    exact law_run (kin w _ Y) G.T.g G.T.b G.T.builtins ⟨_, (G.T.seer ino).mods.choose_spec.1⟩ G.T.nolimit hg hobj hints (Nat.le_trans hlen few) room hF hb (yes ns hlen)
end PD
namespace PD
open PySem PySem.Spec PyProof.Rows L2
def ltV : SV → SV → Store → Rs SV
  | .d (.int i), .d (.int j), S => .ok (.d (.bool (decide (i < j)))) S
  | .d (.str i), .d (.str j), S => .ok (.d (.bool (decide (i.cps.toList < j.cps.toList)))) S
  | _, _, _ => .bad
def gtV : SV → SV → Store → Rs SV
  | .d (.int i), .d (.int j), S => .ok (.d (.bool (decide (j < i)))) S
  | .d (.str i), .d (.str j), S => .ok (.d (.bool (decide (j.cps.toList < i.cps.toList)))) S
  | _, _, _ => .bad
def leV : SV → SV → Store → Rs SV
  | .d (.int i), .d (.int j), S => .ok (.d (.bool (decide (i ≤ j)))) S
  | .d (.str i), .d (.str j), S => .ok (.d (.bool (!decide (j.cps.toList < i.cps.toList)))) S
  | _, _, _ => .bad
def geV : SV → SV → Store → Rs SV
  | .d (.int i), .d (.int j), S => .ok (.d (.bool (decide (j ≤ i)))) S
  | .d (.str i), .d (.str j), S => .ok (.d (.bool (!decide (i.cps.toList < j.cps.toList)))) S
  | _, _, _ => .bad
def cmpR (f : Int → Int → Bool) (g : Str → Str → Bool) : R2 := fun x y H Q => (rI0 fun i j => .bl (f i j)) x y H Q ∨ ∃ i j, x = .str i ∧ y = .str j ∧ Q (.bl (g i j)) H
section
variable {X : Cx} {M : Mo}
theorem op_ltR : OpR X (compareOp .Lt) (cmpR (fun i j => decide (i < j)) fun i j => decide (i.cps.toList < j.cps.toList)) := op_lt.or op_lt_str
theorem op_gtR : OpR X (compareOp .Gt) (cmpR (fun i j => decide (j < i)) fun i j => decide (j.cps.toList < i.cps.toList)) := op_gt.or op_gt_str
theorem op_leR : OpR X (compareOp .LtE) (cmpR (fun i j => decide (i ≤ j)) fun i j => !decide (j.cps.toList < i.cps.toList)) := op_le.or op_le_str
theorem op_geR : OpR X (compareOp .GtE) (cmpR (fun i j => decide (j ≤ i)) fun i j => !decide (i.cps.toList < j.cps.toList)) := op_ge.or op_ge_str
theorem p_lt : P2 M (cmpR (fun i j => decide (i < j)) fun i j => decide (i.cps.toList < j.cps.toList)) ltV := by
  intro W O σ H fr S G x y u v Q R rx ry h
  unfold ltV at h
  split at h
  · obtain rfl := rx.int; obtain rfl := ry.int
    exact .inl ⟨_, _, rfl, rfl, h.here R (.bl _)⟩
  · obtain rfl := rx.str; obtain rfl := ry.str
    exact .inr ⟨_, _, rfl, rfl, h.here R (.bl _)⟩
  · exact h.not_bad.elim
theorem p_gt : P2 M (cmpR (fun i j => decide (j < i)) fun i j => decide (j.cps.toList < i.cps.toList)) gtV := by
  intro W O σ H fr S G x y u v Q R rx ry h
  unfold gtV at h
  split at h
  · obtain rfl := rx.int; obtain rfl := ry.int
    exact .inl ⟨_, _, rfl, rfl, h.here R (.bl _)⟩
  · obtain rfl := rx.str; obtain rfl := ry.str
    exact .inr ⟨_, _, rfl, rfl, h.here R (.bl _)⟩
  · exact h.not_bad.elim
theorem p_le : P2 M (cmpR (fun i j => decide (i ≤ j)) fun i j => !decide (j.cps.toList < i.cps.toList)) leV := by
  intro W O σ H fr S G x y u v Q R rx ry h
  unfold leV at h
  split at h
  · obtain rfl := rx.int; obtain rfl := ry.int
    exact .inl ⟨_, _, rfl, rfl, h.here R (.bl _)⟩
  · obtain rfl := rx.str; obtain rfl := ry.str
    exact .inr ⟨_, _, rfl, rfl, h.here R (.bl _)⟩
  · exact h.not_bad.elim
theorem p_ge : P2 M (cmpR (fun i j => decide (j ≤ i)) fun i j => !decide (i.cps.toList < j.cps.toList)) geV := by
  intro W O σ H fr S G x y u v Q R rx ry h
  unfold geV at h
  split at h
  · obtain rfl := rx.int; obtain rfl := ry.int
    exact .inl ⟨_, _, rfl, rfl, h.here R (.bl _)⟩
  · obtain rfl := rx.str; obtain rfl := ry.str
    exact .inr ⟨_, _, rfl, rfl, h.here R (.bl _)⟩
  · exact h.not_bad.elim
theorem lets_no : Lets X WF := fun _ _ ⟨_, _, _, _, _, _, _, _, _, _, _, _, _, _, _, _, z⟩ => z.elim
end
section
variable {X : Cx} {W : WX} {O : Own} {pos p q : Pos} {e e' : Expr} {m m' : EM}
theorem bt_len : bootBuiltins "len" = some (.builtin "len") := by decide +kernel
theorem bt_abs : bootBuiltins "abs" = some (.builtin "abs") := by decide +kernel
theorem bt_int : bootBuiltins "int" = some (.type "int") := by decide +kernel
theorem bt_str : bootBuiltins "str" = some (.type "str") := by decide +kernel
theorem bt_tuple : bootBuiltins "tuple" = some (.type "tuple") := by decide +kernel
theorem bt_list : bootBuiltins "list" = some (.type "list") := by decide +kernel
theorem bt_repr : bootBuiltins "repr" = some (.builtin "repr") := by decide +kernel
def eA1 (p : List SV → Store → Rs SV) (m : EM) : EM := eA p (aC m aN)
theorem ce_len (hm : X.mg "len" = none) (he : CV X W O e m) (hg : Gl X "len" := by rfl) (hs : starEach [e] X.env = (false, eval e X.env) :: starEach [] X.env := by rfl) : CE X W O (.Call (.Name "len" q) [e] [] pos) (eA1 lenV m) :=
  ce_callB call_len p_len hg hm bt_len (cav_cons he cav_nil hs) (he := hs)
theorem ce_abs (hm : X.mg "abs" = none) (he : CV X W O e m) (hg : Gl X "abs" := by rfl) (hs : starEach [e] X.env = (false, eval e X.env) :: starEach [] X.env := by rfl) : CE X W O (.Call (.Name "abs" q) [e] [] pos) (eA1 absI m) :=
  ce_callB call_abs p_abs hg hm bt_abs (cav_cons he cav_nil hs) (he := hs)
theorem ce_toint (hm : X.mg "int" = none) (he : CV X W O e m) (hg : Gl X "int" := by rfl) (hs : starEach [e] X.env = (false, eval e X.env) :: starEach [] X.env := by rfl) : CE X W O (.Call (.Name "int" q) [e] [] pos) (eA1 intV m) :=
  ce_callTy call_intR p_int hg hm bt_int (cav_cons he cav_nil hs) (he := hs)
theorem ce_totup (hm : X.mg "tuple" = none) (he : CV X W O e m) (hg : Gl X "tuple" := by rfl) (hs : starEach [e] X.env = (false, eval e X.env) :: starEach [] X.env := by rfl) : CE X W O (.Call (.Name "tuple" q) [e] [] pos) (eA1 tupleV m) :=
  ce_callTy call_tuple_of p_tuple hg hm bt_tuple (cav_cons he cav_nil hs) (he := hs)
theorem ce_tolist (hm : X.mg "list" = none) (he : CV X W O e m) (hg : Gl X "list" := by rfl) (hs : starEach [e] X.env = (false, eval e X.env) :: starEach [] X.env := by rfl) : CE X W O (.Call (.Name "list" q) [e] [] pos) (eA1 listV m) :=
  ce_callTy call_list_of p_list hg hm bt_list (cav_cons he cav_nil hs) (he := hs)
end
end PD
namespace PD
open PySem PySem.Spec PyProof.Rows L2
inductive RpOs (M : Mo) (G : Gh) (H : Hp) : Hp → List Bool → List SV → List V → Prop
  | nil {H0 : Hp} : RpOs M G H H0 [] [] []
  | val {H0 H1 : Hp} {os : List Bool} {x : SV} {u : V} {xs : List SV} {us : List V} : RpS M G H x u → (∀ b, H1 b = none → H0 b = none) → RpOs M G H H1 os xs us → RpOs M G H H0 (false :: os) (x :: xs) (u :: us)
  | own {H0 H1 : Hp} {os : List Bool} {x : SV} {a : Addr} {xs : List SV} {us : List V} : Tmp M H0 a x G H → H1 a ≠ none → (∀ b, H1 b = none → H0 b = none) → RpOs M G H H1 os xs us → RpOs M G H H0 (true :: os) (x :: xs) (.ref a :: us)
def tAO (M : Mo) (W : WX) (O : Own) (os : List Bool) (m : AM) : TA := fun σ H Q => ∃ fr S G, Rel M O σ H fr S G ∧ Pst M W O σ H fr G (m fr S) (fun G' H' xs us => RpOs M G' H' H os xs us) Q
def CAO (X : Cx) (W : WX) (O : Own) (es : List Expr) (os : List Bool) (m : AM) : Prop := PA X es (tAO (.of X) W O os m)
def OldAt (O : Own) (σ : L2.St) (fr : Fr) (H0 : Hp) : Prop := ∀ j w a, O.has j → fr[j]? = some (some w) → σ[j]? = some (some (V.ref a)) → H0 a ≠ none
def setAll (fr : Fr) : List Nat → List SV → Fr
  | i :: is, x :: xs => setAll (fr.set i (some x)) is xs
  | _, _ => fr
def setAllV (σ : L2.St) : List Nat → List V → L2.St
  | i :: is, u :: us => setAllV (σ.set i (some u)) is us
  | _, _ => σ
def setAllO (O : Own) : List Nat → List Bool → Own
  | i :: is, o :: os => setAllO (O.set i o) is os
  | _, _ => O
theorem Rel.storeAll {M : Mo} {H : Hp} {S : Store} {G : Gh} : ∀ {is : List Nat} {os : List Bool} {xs : List SV} {us : List V} {H0 : Hp} {O : Own} {σ : L2.St} {fr : Fr},
    Rel M O σ H fr S G → OldAt O σ fr H0 → RpOs M G H H0 os xs us → is.length = os.length → (∀ i ∈ is, i < σ.length ∧ i < O.length) → (∀ a, H a ≠ none → G.H0 a ≠ none → H0 a ≠ none) → Rel M (setAllO O is os) (setAllV σ is us) H (setAll fr is xs) S G := by
  intro is
  induction is with
  | nil =>
    intro os xs us H0 O σ fr R old rs hl hi hh
    cases os with
    | nil => cases rs; exact R
    | cons o os => simp at hl
  | cons i is ih =>
    intro os xs us H0 O σ fr R old rs hl hi hh
    cases rs with
    | nil => simp at hl
    | @val _ H1 os x u xs us r up t =>
      have hb := hi i List.mem_cons_self
      refine ih (R.store (O := O) hb.1 r) (fun j w a oj e1 e2 => ?_) t (by simpa using hl) (fun k hk => by
        have := hi k (List.mem_cons_of_mem _ hk)
        simpa using this) fun a z1 z2 => ?_
      · by_cases e : i = j
        · subst e
          have oj' : (O.set i false)[i]? = some true := oj
          rw [List.getElem?_set_self hb.2] at oj'
          cases oj'
        · have oj' : (O.set i false)[j]? = some true := oj
          rw [List.getElem?_set_ne e] at oj' e1 e2
          exact fun z => old j w a oj' e1 e2 (up a z)
      · exact fun z => hh a z1 z2 (up a z)
    | @own _ H1 os x a xs us tm ha up t =>
      have hb := hi i List.mem_cons_self
      have n0 : G.H0 a = none := by
        cases q : G.H0 a with
        | none => rfl
        | some o =>
          obtain ⟨o', ho', _⟩ := Cont.there tm.cont
          exact absurd tm.new (hh a (by rw [ho']; simp) (by rw [q]; simp))
      refine ih (R.storeOwn (O := O) hb.1 hb.2 tm.nf tm.nr n0 tm.cont fun j w oj e1 e2 => old j w a oj e1 e2 tm.new) (fun j w b oj e1 e2 => ?_) t (by simpa using hl) (fun k hk => by
        have := hi k (List.mem_cons_of_mem _ hk)
        simpa using this) fun b z1 z2 => ?_
      · by_cases e : i = j
        · subst e
          rw [List.getElem?_set_self hb.1] at e2
          have : a = b := by simpa using e2
          subst this
          exact ha
        · have oj' : (O.set i true)[j]? = some true := oj
          rw [List.getElem?_set_ne e] at oj' e1 e2
          exact fun z => old j w b oj' e1 e2 (up b z)
      · exact fun z => hh b z1 z2 (up b z)
def sPar (is : List Nat) (n : Nat) (m : AM) : SM := fun fr S => (m fr S).toS fr fun xs S1 => if (is.all fun i => decide (i < fr.length) && decide (i < n)) = true then .nx (setAll fr is xs) S1 else .bad
section
variable {X : Cx} {W : WX} {L O : Own} {pos : Pos}
theorem cao_nil : CAO X W O [] [] aN := paI pa_nil fun σ H Q ⟨fr, S, G, R, h⟩ => h.here R .nil
theorem cao_val {e : Expr} {es : List Expr} {os : List Bool} {m : EM} {n : AM} (he : CE X W O e m) (hr : CAO X W O es os n) (hs : starEach (e :: es) X.env = (false, eval e X.env) :: starEach es X.env := by rfl) : CAO X W O (e :: es) (false :: os) (aC m n) :=
  paI (pa_cons he hr hs) fun σ H Q ⟨fr, S, G, R, h⟩ => ⟨fr, S, G, R, h.split fun x S1 u H1 G1 R1 st1 rx h1 => ⟨fr, S1, G1, R1, h1.split fun xs S2 us H2 G2 R2 st2 rs h2 =>
    h2.here R2 (.val (R1.base.rps st2 rx) (fun b z => st1.there b z) rs)⟩⟩
theorem cao_own {e : Expr} {es : List Expr} {os : List Bool} {m : EM} {n : AM} (he : CN X W O e m) (hr : CAO X W O es os n) (hs : starEach (e :: es) X.env = (false, eval e X.env) :: starEach es X.env := by rfl) : CAO X W O (e :: es) (true :: os) (aC m n) :=
  paI (pa_cons he hr hs) fun σ H Q ⟨fr, S, G, R, h⟩ => ⟨fr, S, G, R, h.split fun x S1 u H1 G1 R1 st1 ⟨a, eu, tm⟩ h1 => ⟨fr, S1, G1, R1, h1.split fun xs S2 us H2 G2 R2 st2 rs h2 => by
    subst eu
    obtain ⟨o, ho, _⟩ := Cont.there tm.cont
    exact h2.here R2 (.own (tm.step R1.base st2) (by rw [ho]; simp) (fun b z => st1.there b z) rs)⟩⟩
theorem RpOs.len {M : Mo} {G : Gh} {H H0 : Hp} {os : List Bool} {xs : List SV} {us : List V} (r : RpOs M G H H0 os xs us) : xs.length = us.length ∧ os.length = us.length := by
  induction r with
  | nil => exact ⟨rfl, rfl⟩
  | val _ _ _ ih => simp [ih.1, ih.2]
  | own _ _ _ _ ih => simp [ih.1, ih.2]
theorem par_read {M : Mo} {O' : Own} {is : List Nat} {os : List Bool} {m : AM} {σ : L2.St} {H : Hp} {D : Ends} {fr : Fr} {S : Store} {G : Gh} (hl : is.length = os.length) (R : Rel M O σ H fr S G) (h : SPst M W L (setAllO O is os) H G (sPar is O.length m fr S) D) :
    tAO M W O os m σ H fun us H1 => us.length = is.length ∧ D.nx (setAllV σ is us) H1 := by
  refine ⟨fr, S, G, R, h.expr R fun xs S1 us H1 G1 R1 st1 a1 rs h1 => ?_⟩
  split at h1
  · rename_i hz
    rw [List.all_eq_true] at hz
    have hi : ∀ i ∈ is, i < σ.length ∧ i < O.length := fun i m => by
      have q := hz i m
      rw [Bool.and_eq_true, decide_eq_true_eq, decide_eq_true_eq, R.len] at q
      exact q
    have old : OldAt O σ fr H := fun j w a oj e1 e2 => R.own_there oj e1 e2
    refine ⟨by rw [hl, rs.len.2], h1.nx _ S1 rfl _ H1 G1 (R1.storeAll old rs hl hi fun a _ z => ?_) Adv.refl⟩
    rw [st1.h0] at z
    exact fun q => z (R.base.new0 q).1
  · exact (h1.good rfl).elim
theorem cs_par2 (i j : Nat) {x y : Str} {a b : Expr} {os : List Bool} {m : AM} {px py pt : Pos} {kt k2 : Nat} {pt2 : Pos} (hc : X.calm = true) (hN : X.N.Nodup) (ha : CAO X W O [a, b] os m) (hos : os.length = 2 := by rfl) (hi : X.N[i]? = some x := by rfl) (hj : X.N[j]? = some y := by rfl) (hij : i ≠ j := by decide)
    (hx : X.env.scope.names.lookup x = some .local := by rfl) (hy : X.env.scope.names.lookup y = some .local := by rfl)
    (hw : swappedStores [.Tuple [.Name x px, .Name y py] kt pt] (.Tuple [a, b] k2 pt2) X.env = pure (some [x, y]) := by rfl)
    (hs : swapsWithSole [.Tuple [.Name x px, .Name y py] kt pt] (.Tuple [a, b] k2 pt2) pos.line X.env = pure false := by rfl) :
    CS X W L O (.Assign [.Tuple [.Name x px, .Name y py] kt pt] (.Tuple [a, b] k2 pt2) pos) (sPar [i, j] O.length m) (setAllO O [i, j] os) :=
  psI (ps_par hc hN hi hj hij hx hy ha hw hs) fun D σ H ⟨fr, S, G, R, h⟩ => by
    obtain ⟨fr', S', G', R', g⟩ := par_read (O' := O) (by rw [hos]; rfl) R h
    refine ⟨fr', S', G', R', g.good, fun z S1 e u H1 G1 R1 st r => ?_, g.exc⟩
    obtain ⟨h1, h2⟩ := g.ok z S1 e u H1 G1 R1 st r
    match u, h1 with
    | [v, w], _ => exact ⟨v, w, rfl, h2⟩
end
end PD
namespace PD
open PySem PySem.Spec PyProof.Rows L2
theorem bt_isi : bootBuiltins "isinstance" = some (.builtin "isinstance") := by decide +kernel
theorem bt_bool : bootBuiltins "bool" = some (.type "bool") := by decide +kernel
theorem bt_sum : bootBuiltins "sum" = some (.builtin "sum") := by decide +kernel
theorem bt_all : bootBuiltins "all" = some (.builtin "all") := by decide +kernel
def isaR (X : Cx) (T : String) (p : PyData → Bool) : List V → Hp → VK → Prop := fun xs H Q => ∃ F d x, xs = [x, .ty T] ∧ Rp (.of X) F H d x ∧ Q (.bl (p d)) H
def isaV (p : PyData → Bool) : SV → Store → Rs SV
  | .d x, S => .ok (.d (.bool (p x))) S
  | _, _ => .bad
section
variable {X : Cx} {W : WX} {O : Own} {pos p q : Pos} {e : Expr} {es : List Expr} {m : EM}
theorem isa_run {T : String} {p : PyData → Bool} (h : ∀ {A : Around} {E : Value → Shared → Prop} {s : Shared} {v : Value} {d : PyData} {as : List Addr} {Q : Value → Shared → Prop}, Reads s.heap v d as → (∀ tk, s.toks ≤ tk → Q (.bool (p d)) { s with toks := tk }) → wpAny (model X.prog X.w) A (call (.builtin "isinstance") [v, .type T]) Q E s) :
    CallR X (.builtin "isinstance") (isaR X T p) := by
  intro pins s σ H xs us Q I r hq
  obtain ⟨F, d, x, rfl, hd, q⟩ := hq
  cases r with
  | cons r1 t =>
    cases t with
    | cons r2 t =>
      cases t
      cases r2
      obtain ⟨as, rd⟩ := hd.reads I r1
      exact h rd fun tk _ => ⟨.bl _, H, I.kept (t' := tk) fun b o e => e, rfl, q⟩
theorem ce_isi {T : String} {x : Str} {pr : PyData → Bool} (hc : CallR X (.builtin "isinstance") (isaR X T pr)) (hm : X.mg "isinstance" = none) (hx : X.mg x = none) (hv : bootBuiltins x = some (.type T)) (he : CV X W O e m) (hg : Gl X "isinstance" := by rfl) (hgx : Gl X x := by rfl)
    (hn : x ≠ "__name__" := by decide) (hdb : (x == ("__debug__" : Str)) = false := by decide)
    (hs : starEach [e, .Name x q] X.env = (false, eval e X.env) :: starEach [.Name x q] X.env := by rfl) (hs2 : starEach [.Name x q] X.env = (false, eval (.Name x q) X.env) :: starEach [] X.env := by rfl)
    (hpl : (backTo pos (starEach [.Name x q] X.env)).any (·.1) = false := by rfl) : CE X W O (.Call (.Name "isinstance" p) [e, .Name x q] [] pos) (e1 (isaV pr) m) :=
  peI (pe_callB hc hg hm bt_isi (pa_cons he (pa_cons (pe_bltn (v := .ty T) hgx hx hv rfl hn hdb) pa_nil hs2) hs) (by decide) (by decide) hs hpl) fun σ H Q ⟨fr, S, G, R, h⟩ => ⟨fr, S, G, R, h.split fun x S1 u H1 G1 R1 st1 rx h1 => by
    unfold isaV at h1
    split at h1
    · obtain ⟨F, rd⟩ := rx.any
      exact ⟨F, _, u, rfl, rd, h1.here R1 (.bl _)⟩
    · exact h1.not_bad.elim⟩
theorem isa_int : CallR X (.builtin "isinstance") (isaR X "int" PyData.isInt) := isa_run fun r h => PySem.W.isinstance_int_data r h
theorem isa_str : CallR X (.builtin "isinstance") (isaR X "str" PyData.isStr) := isa_run fun r h => PySem.W.isinstance_str_data r h
theorem isa_bool : CallR X (.builtin "isinstance") (isaR X "bool" PyData.isBool) := isa_run fun r h => PySem.W.isinstance_bool_data r h
theorem isa_tuple : CallR X (.builtin "isinstance") (isaR X "tuple" PyData.isTuple) := isa_run fun r h => PySem.W.isinstance_tuple_data r h
end
def intsOf : List PyData → Option (List Int)
  | [] => some []
  | .int x :: r => (intsOf r).map (x :: ·)
  | _ :: _ => none
def boolsOf : List PyData → Option (List Bool)
  | [] => some []
  | .bool x :: r => (boolsOf r).map (x :: ·)
  | _ :: _ => none
theorem ints_rel {M : Mo} {F : Addr → Prop} {H : Hp} : ∀ {ds : List PyData} {vs : List V} {ys : List Int}, RpAll M F H ds vs → intsOf ds = some ys → vs = ys.map V.int
  | [], _, ys, .nil, e => by cases e; rfl
  | .int x :: r, _, ys, .cons q t, e => by
    cases h : intsOf r with
    | none => simp [intsOf, h] at e
    | some zs =>
      have e' : x :: zs = ys := by simpa [intsOf, h] using e
      subst e'
      cases q
      rw [ints_rel t h]
      rfl
  | .none :: _, _, _, _, e => by simp [intsOf] at e
  | .bool _ :: _, _, _, _, e => by simp [intsOf] at e
  | .str _ :: _, _, _, _, e => by simp [intsOf] at e
  | .list _ :: _, _, _, _, e => by simp [intsOf] at e
  | .tuple _ :: _, _, _, _, e => by simp [intsOf] at e
  | .dict _ :: _, _, _, _, e => by simp [intsOf] at e
theorem bools_rel {M : Mo} {F : Addr → Prop} {H : Hp} : ∀ {ds : List PyData} {vs : List V} {ys : List Bool}, RpAll M F H ds vs → boolsOf ds = some ys → vs = ys.map V.bl
  | [], _, ys, .nil, e => by cases e; rfl
  | .bool x :: r, _, ys, .cons q t, e => by
    cases h : boolsOf r with
    | none => simp [boolsOf, h] at e
    | some zs =>
      have e' : x :: zs = ys := by simpa [boolsOf, h] using e
      subst e'
      cases q
      rw [bools_rel t h]
      rfl
  | .none :: _, _, _, _, e => by simp [boolsOf] at e
  | .int _ :: _, _, _, _, e => by simp [boolsOf] at e
  | .str _ :: _, _, _, _, e => by simp [boolsOf] at e
  | .list _ :: _, _, _, _, e => by simp [boolsOf] at e
  | .tuple _ :: _, _, _, _, e => by simp [boolsOf] at e
  | .dict _ :: _, _, _, _, e => by simp [boolsOf] at e
def sumV : List SV → Store → Rs SV
  | [.d (.list ds)], S => match intsOf ds with
    | some ns => .ok (.d (.int ns.sum)) S
    | none => .bad
  | _, _ => .bad
theorem p_sum {M : Mo} : PN M (rSum M.K) sumV := by
  intro W O σ H fr S G xs us Q R rs h
  unfold sumV at h
  split at h
  · split at h
    · rename_i hn
      obtain ⟨u, rfl, ru⟩ := rs.one
      obtain ⟨a, vs, rfl, q, r⟩ := ru.lst
      obtain rfl := ints_rel r hn
      exact ⟨_, _, rfl, SqL.of q, h.here R (.int _)⟩
    · exact h.not_bad.elim
  · exact h.not_bad.elim
def allV : List SV → Store → Rs SV
  | [.d (.list ds)], S => match boolsOf ds with
    | some bs => .ok (.d (.bool (bs.all id))) S
    | none => .bad
  | _, _ => .bad
theorem p_all {M : Mo} : PN M (rAll M.K) allV := by
  intro W O σ H fr S G xs us Q R rs h
  unfold allV at h
  split at h
  · split at h
    · rename_i hn
      obtain ⟨u, rfl, ru⟩ := rs.one
      obtain ⟨a, vs, rfl, q, r⟩ := ru.lst
      obtain rfl := bools_rel r hn
      exact ⟨_, _, rfl, SqL.of q, h.here R (.bl _)⟩
    · exact h.not_bad.elim
  · exact h.not_bad.elim
section
variable {X : Cx} {W : WX} {L O : Own} {pos p q : Pos} {e e' : Expr} {m m' : EM}
theorem ce_sum (hc : X.calm = true) (hm : X.mg "sum" = none) (he : CV X W O e m) (hg : Gl X "sum" := by rfl) (hs : starEach [e] X.env = (false, eval e X.env) :: starEach [] X.env := by rfl) : CE X W O (.Call (.Name "sum" q) [e] [] pos) (eA1 sumV m) :=
  ce_callB (cr_sum hc) p_sum hg hm bt_sum (cav_cons he cav_nil hs) (he := hs)
theorem ce_all (hc : X.calm = true) (hm : X.mg "all" = none) (he : CV X W O e m) (hg : Gl X "all" := by rfl) (hs : starEach [e] X.env = (false, eval e X.env) :: starEach [] X.env := by rfl) : CE X W O (.Call (.Name "all" q) [e] [] pos) (eA1 allV m) :=
  ce_callB (cr_all hc) p_all hg hm bt_all (cav_cons he cav_nil hs) (he := hs)
end
end PD
namespace PD
open PySem PySem.Spec PyProof.Rows L2
section
variable {M : Mo} {W : WX} {O : Own} {σ : L2.St} {H H1 : Hp} {fr : Fr} {S1 : Store} {G G1 : Gh} {Q : VK}
theorem tmp_fin (R1 : Rel M O σ H1 fr S1 G1) (st1 : Stp G H G1 H1) {p : Addr} (hp : H1 p = none) {ds : List PyData} {us : List V} (r : RpAll M G1.F H1 ds us)
    (h : Pst M W O σ H1 fr G1 (.ok (.d (.list ds)) S1) (fun G' H' v u => ∃ a, u = V.ref a ∧ Tmp M H a v G' H') Q) : Q (.ref p) (upd H1 p (.lst us)) := by
  obtain ⟨B, st⟩ := R1.base.newT (o := .lst us) hp
  obtain ⟨_, nr, nf⟩ := R1.base.new0 hp
  exact h.ok _ _ rfl _ _ G1 (R1.step st B) st ⟨p, rfl, st1.there p hp, nf, nr, .inl ⟨ds, us, rfl, upd_same, RpAll.keep (R1.base.keeps st) r⟩⟩
end
theorem RpAll.rev {M : Mo} {F : Addr → Prop} {H : Hp} : ∀ {ds : List PyData} {vs : List V}, RpAll M F H ds vs → RpAll M F H ds.reverse vs.reverse
  | _, _, .nil => .nil
  | _, _, .cons r t => by
    rw [List.reverse_cons, List.reverse_cons]
    exact (RpAll.rev t).append (.cons r .nil)
end PD
namespace PD
open PySem PySem.Spec PyProof.Rows L2
section
variable {X : Cx} {W : WX} {O : Own} {pos : Pos}
theorem cn_dict0 : CN X W O (.Dict [] [] pos) (eC (.dict [])) :=
  peI pe_dnewK fun σ H Q ⟨fr, S, G, R, h⟩ p hp => by
    obtain ⟨B, st⟩ := R.base.newT (o := .dK []) hp
    obtain ⟨_, nr, nf⟩ := R.base.new0 hp
    exact h.ok _ _ rfl _ _ G (R.step st B) st ⟨p, rfl, hp, nf, nr, .inr (.inl ⟨[], [], rfl, upd_same, .nil, .nil⟩)⟩
end
section
variable {X : Cx} {pins : List (Addr × Obj)} {σ : L2.St} {H : Hp} {s : Shared} {F : Addr → Prop}
mutual
theorem Rp.readsS (I : Inv X pins σ H s) (sm : (X.base.get? sysModules).isSome = true) : ∀ {d : PyData} {v : V} {u : Value}, Rp (.of X) F H d v → RelV v u → ∃ as, Reads s.heap u d as ∧ sysModules ∉ as
  | _, _, _, .non, r => by cases r; exact ⟨_, .none, by simp⟩
  | _, _, _, .bl b, r => by cases r; exact ⟨_, .bool b, by simp⟩
  | _, _, _, .int i, r => by obtain ⟨t, rfl⟩ := r; exact ⟨_, .int i t, by simp⟩
  | _, _, _, .str x, r => by obtain ⟨t, rfl⟩ := r; exact ⟨_, .str x t, by simp⟩
  | _, _, _, .lst f h q, r => by
    cases r
    obtain ⟨z, its, n, rv, e⟩ := I.hok _ _ h
    obtain ⟨as, ra, na⟩ := RpAll.readsS I sm q rv
    refine ⟨_, .list e rfl rfl (by simpa using ra), ?_⟩
    rw [List.mem_cons, not_or]
    refine ⟨fun z => ?_, na⟩
    obtain ⟨o, ho⟩ := Option.isSome_iff_exists.mp sm
    have := (I.bs _ _ ho).2
    rw [z, h] at this
    cases this
  | _, _, _, .tup h q, r => by
    cases r
    obtain ⟨its, rv, ⟨o, e, hc, n, hd⟩, z⟩ := I.tuple h
    obtain ⟨as, ra, na⟩ := RpAll.readsS I sm q rv
    exact ⟨_, .tuple e hc hd (by simpa using ra), na⟩
  | _, _, _, .dK f h q1 q2, r => by
    cases r
    obtain ⟨z, y, vs, rv, o, es, ep, e, hx, hd, ko, hp, nd⟩ := I.hok _ _ h
    obtain ⟨v1, v2⟩ := dK_entries (fun _ _ hk => keyIs_rel hk) hp rv
    obtain ⟨as, ra, na⟩ := RpAll.readsS I sm q1 v1
    obtain ⟨bs, rb, nb⟩ := RpAll.readsS I sm q2 v2
    refine ⟨_, .dict e hx.1 hd ra rb, ?_⟩
    rw [List.mem_append, List.mem_cons, not_or, not_or]
    exact ⟨⟨fun z => (beq_eq_false_iff_ne.mp y) z.symm, na⟩, nb⟩
  | _, _, _, .dN f h _ q1 q2, r => by
    cases r
    obtain ⟨⟨o, ds, ep, e, hx, hd, hp, _, ne⟩, _⟩ := I.hok _ _ h
    obtain ⟨v1, v2⟩ := dN_entries hp
    obtain ⟨as, ra, na⟩ := RpAll.readsS I sm q1 v1
    obtain ⟨bs, rb, nb⟩ := RpAll.readsS I sm q2 v2
    refine ⟨_, .dict e hx.1 hd ra rb, ?_⟩
    rw [List.mem_append, List.mem_cons, not_or, not_or]
    exact ⟨⟨ne, na⟩, nb⟩
theorem RpAll.readsS (I : Inv X pins σ H s) (sm : (X.base.get? sysModules).isSome = true) : ∀ {ds : List PyData} {vs : List V} {us : List Value}, RpAll (.of X) F H ds vs → Vals vs us → ∃ as, ReadsAll s.heap us ds as ∧ sysModules ∉ as
  | _, _, _, .nil, .nil => ⟨_, .nil, by simp⟩
  | _, _, _, .cons r t, .cons q w => by
    obtain ⟨as, ra, na⟩ := Rp.readsS I sm r q
    obtain ⟨bs, rb, nb⟩ := RpAll.readsS I sm t w
    exact ⟨_, .cons ra rb, by rw [List.mem_append, not_or]; exact ⟨na, nb⟩⟩
end
end
def reprOkD (d : PyData) : Bool := d.showable && decide (d.depth ≤ 180) && decide (d.shown.length ≤ sizeLine)
def reprVD : List SV → Store → Rs SV
  | [.d d], S => if reprOkD d = true then .ok (.d (.str d.shown)) S else .bad
  | _, _ => .bad
def reprRD (X : Cx) : List V → Hp → VK → Prop := fun xs H Q => ∃ F d x, xs = [x] ∧ Rp (.of X) F H d x ∧ reprOkD d = true ∧ Q (.str d.shown) H
theorem call_reprRD {X : Cx} {k : Nat} (hr : Room k X.A) (hgd : Gd X.base X.A) : CallR X (.builtin "repr") (reprRD X) := by
  intro pins s σ H xs us Q I r h
  obtain ⟨F, d, x, rfl, hd, ok, q⟩ := h
  obtain ⟨u, rfl, ru⟩ := vals1 r
  simp only [reprOkD, Bool.and_eq_true, decide_eq_true_eq] at ok
  obtain ⟨⟨sh, dp⟩, sz⟩ := ok
  obtain ⟨as, rd, nas⟩ : ∃ as, Reads s.heap u d as ∧ (d.hasDict = true → sysModules ∉ as) := by
    obtain ⟨as, rd, na⟩ := hd.readsS I hgd.2 ru
    exact ⟨as, rd, fun _ => na⟩
  have viaRef : ∀ a, u = .ref a → wpAny (model X.prog X.w) X.A (call (.builtin "repr") [u]) (EP X pins σ Q) X.xe s := fun a e => by
    subst e
    exact repr_of_reads' rd sh nas hgd.1 (room190 hr (by omega)) (fun _ _ e => e) (fun h' t tk hk => ⟨.str _, H, I.kept hk, ⟨_, rfl⟩, q⟩) sz
  cases rd with
  | none => exact PySem.P.repr_of_none ⟨.str _, H, I.tok _, ⟨_, rfl⟩, q⟩
  | bool b => exact PySem.P.repr_of_bool ⟨.str _, H, I.tok _, ⟨_, rfl⟩, by cases b <;> exact q⟩
  | int i t => exact PySem.P.repr_of_int (by simpa [PyData.showable] using sh) ⟨.str _, H, I.tok _, ⟨_, rfl⟩, q⟩
  | str x t => exact PySem.P.repr_of_str ⟨.str _, H, I.tok _, ⟨_, rfl⟩, q⟩ sz
  | list _ _ _ _ => exact viaRef _ rfl
  | tuple _ _ _ _ => exact viaRef _ rfl
  | dict _ _ _ _ _ => exact viaRef _ rfl
theorem p_reprD {X : Cx} : PN (.of X) (reprRD X) reprVD := by
  intro W O σ H fr S G xs us Q R rs h
  unfold reprVD at h
  split at h
  · split at h
    · rename_i hz
      obtain ⟨u, rfl, ru⟩ := rs.one
      obtain ⟨_, ru⟩ := ru.any
      exact ⟨_, _, _, rfl, ru, hz, h.here R (.str _)⟩
    · exact h.not_bad.elim
  · exact h.not_bad.elim
theorem ce_reprD {X : Cx} {W : WX} {O : Own} {pos q : Pos} {e : Expr} {m : EM} {k : Nat} (hr : Room k X.A) (hgd : Gd X.base X.A) (hm : X.mg "repr" = none) (he : CV X W O e m) (hg : Gl X "repr" := by rfl) (hs : starEach [e] X.env = (false, eval e X.env) :: starEach [] X.env := by rfl) : CE X W O (.Call (.Name "repr" q) [e] [] pos) (eA1 reprVD m) :=
  ce_callB (call_reprRD hr hgd) p_reprD hg hm bt_repr (cav_cons he cav_nil hs) (he := hs)
end PD
namespace PD
open PySem PySem.Spec PyProof.Rows L2
def KeyOf (h : Heap) (k : NestedKey) (a : Addr) : Prop := NestedIs h k (.ref a) ∧ k.depth ≤ 8
theorem KeyOf.one {h : Heap} {k k' : NestedKey} {a : Addr} (x : KeyOf h k a) (y : KeyOf h k' a) : k = k' := NestedIs.inj _ _ _ x.1 y.1
theorem KeyOf.on {h h' : Heap} {k : NestedKey} {a : Addr} (x : KeyOf h k a) (q : ∀ b o, h.get? b = some o → h'.get? b = some o) : KeyOf h' k a := ⟨NestedIs.at (fun b o _ _ e _ => q b o e) _ _ x.1, x.2⟩
theorem KeyOf.but {h h' : Heap} {k : NestedKey} {a d : Addr} {o : Obj} {es : Array (Int × Value)} {ep : Nat} {t : SetTable} (x : KeyOf h k a) (ho : h.get? d = some o) (hd : o.data = .set es ep t) (q : Heap.SameBut d h h') : KeyOf h' k a :=
  ⟨NestedIs.at (fun b ob vs n e c => by
    refine (q.2 b fun z => ?_).trans e
    subst z
    rw [ho] at e
    cases e
    rw [hd] at c
    cases c) _ _ x.1, x.2⟩
section
variable {P : Program} {w : World} {A : Around} {E : Value → Shared → Prop}
mutual
theorem own_class : ∀ (k : NestedKey) (v : Value) (n : Nat) (s : Shared) (A : Around) (E : Value → Shared → Prop) (Q : Bool → Shared → Prop), NestedIs s.heap k v → k.depth ≤ n → Q false s → wpAny (model P w) A (ofAClassStatement n v) Q E s
  | .none, _, n, s, A, E, Q, x, _, q => by
    cases x
    cases n <;> exact wpAny_pure q
  | .num i, _, n, s, A, E, Q, x, _, q => by cases x <;> cases n <;> exact wpAny_pure q
  | .text y, _, n, s, A, E, Q, x, _, q => by
    cases x
    cases n <;> exact wpAny_pure q
  | .tup ks, _, n, s, A, E, Q, x, l, q => by
    cases x with
    | @tup a o vs m _ e1 e2 e3 e4 =>
      simp only [NestedKey.depth] at l
      obtain ⟨n, rfl⟩ : ∃ j, n = j + 1 := ⟨n - 1, by omega⟩
      unfold ofAClassStatement
      refine wpAny_bind (wpAny_typeOf ⟨o, e1, e2⟩ ?_)
      dsimp only
      simp only [show (("tuple" : String) == "tuple") = true from by decide, if_true, Bool.not_true, Bool.false_eq_true, if_false]
      refine wpAny_bind (wpAny_pure ?_)
      simp only [Bool.not_true, Bool.false_eq_true, if_false]
      refine wpAny_bind (m := seqItems? (.ref a)) (wpAny_seqItems e1 e3 ?_)
      dsimp only
      refine wpAny_bind (m := forIn vs _ _) ?_
      rw [← Array.forIn_toList]
      refine wpAny_forIn_list _ (fun left r s' => s' = s ∧ r.1 = none ∧ ∀ v ∈ left, v ∈ vs.toList) _ (fun v left r s' ⟨z1, z2, z3⟩ => ?_) (fun r s' ⟨z1, z2, _⟩ => ?_) _ _ ⟨rfl, rfl, fun _ h => h⟩
      · subst z1
        refine wpAny_bind (own_classes ks _ n s' A E _ e4 (by omega) v (z3 v List.mem_cons_self) ?_)
        exact wpAny_pure ⟨rfl, rfl, fun u hu => z3 u (List.mem_cons_of_mem _ hu)⟩
      · obtain ⟨r1, r2⟩ := r
        simp only at z2
        subst z1 z2
        exact wpAny_pure q
theorem own_classes : ∀ (ks : List NestedKey) (vs : List Value) (n : Nat) (s : Shared) (A : Around) (E : Value → Shared → Prop) (Q : Bool → Shared → Prop), NestedAll s.heap ks vs → NestedKey.depthAll ks ≤ n → ∀ v ∈ vs, Q false s → wpAny (model P w) A (ofAClassStatement n v) Q E s
  | [], _, n, s, A, E, Q, x, _, v, hv, q => by
    cases x
    cases hv
  | k :: ks, _, n, s, A, E, Q, x, l, v, hv, q => by
    cases x with
    | cons x1 x2 =>
      simp only [NestedKey.depthAll] at l
      rcases List.mem_cons.mp hv with e | hv
      · rw [e]
        exact own_class k _ n s A E Q x1 (by omega) q
      · exact own_classes ks _ n s A E Q x2 (by omega) v hv q
end
mutual
theorem by_value : ∀ (k : NestedKey) (v : Value) (n : Nat) (s : Shared) (A : Around) (E : Value → Shared → Prop) (Q : Bool → Shared → Prop), NestedIs s.heap k v → k.depth ≤ n → (∀ b, Q b s) → wpAny (model P w) A (hashByValue n v) Q E s
  | .none, _, n, s, A, E, Q, x, _, q => by
    cases x
    cases n <;> exact wpAny_pure (q _)
  | .num i, _, n, s, A, E, Q, x, _, q => by cases x <;> cases n <;> exact wpAny_pure (q _)
  | .text y, _, n, s, A, E, Q, x, _, q => by
    cases x
    cases n <;> exact wpAny_pure (q _)
  | .tup ks, _, n, s, A, E, Q, x, l, q => by
    cases x with
    | @tup a o vs m _ e1 e2 e3 e4 =>
      simp only [NestedKey.depth] at l
      obtain ⟨n, rfl⟩ : ∃ j, n = j + 1 := ⟨n - 1, by omega⟩
      unfold hashByValue
      refine wpAny_bind (wpAny_specialOf (T := "tuple") ⟨o, e1, e2⟩ F.slot_tuple_hash.lookup ?_)
      refine wpAny_bind (m := seqItems? (.ref a)) (wpAny_seqItems e1 e3 ?_)
      refine wpAny_bind (m := forIn vs _ _) ?_
      rw [← Array.forIn_toList]
      refine wpAny_forIn_list _ (fun left r s' => s' = s ∧ r.1 = none ∧ ∀ v ∈ left, v ∈ vs.toList) _ (fun v left r s' ⟨z1, z2, z3⟩ => ?_) (fun r s' ⟨z1, z2, _⟩ => ?_) _ _ ⟨rfl, rfl, fun _ h => h⟩
      · subst z1
        refine wpAny_bind (by_values ks _ n s' A E _ e4 (by omega) v (z3 v List.mem_cons_self) fun b => ?_)
        cases b with
        | true => exact wpAny_pure ⟨rfl, rfl, fun u hu => z3 u (List.mem_cons_of_mem _ hu)⟩
        | false => exact wpAny_pure (wpAny_pure (q _))
      · obtain ⟨r1, r2⟩ := r
        simp only at z2
        subst z1 z2
        exact wpAny_pure (q _)
theorem by_values : ∀ (ks : List NestedKey) (vs : List Value) (n : Nat) (s : Shared) (A : Around) (E : Value → Shared → Prop) (Q : Bool → Shared → Prop), NestedAll s.heap ks vs → NestedKey.depthAll ks ≤ n → ∀ v ∈ vs, (∀ b, Q b s) → wpAny (model P w) A (hashByValue n v) Q E s
  | [], _, n, s, A, E, Q, x, _, v, hv, q => by
    cases x
    cases hv
  | k :: ks, _, n, s, A, E, Q, x, l, v, hv, q => by
    cases x with
    | cons x1 x2 =>
      simp only [NestedKey.depthAll] at l
      rcases List.mem_cons.mp hv with e | hv
      · rw [e]
        exact by_value k _ n s A E Q x1 (by omega) q
      · exact by_values ks _ n s A E Q x2 (by omega) v hv q
end
end
abbrev KRow := Addr × NestedKey
def rowsK (w : World) (L : List KRow) : List (Int × Value) := L.map fun p => (p.2.hash w, Value.ref p.1)
def hashesK (w : World) (L : List KRow) : List Int := L.map fun p => p.2.hash w
structure SetK8 (w : World) (h : Heap) (a : Addr) (L : List KRow) (es : Array (Int × Value)) (ep : Nat) (t : SetTable) : Prop where
  ob : ∃ o, h.get? a = some o ∧ o.ExactSet ∧ o.data = .set es ep t
  rows : es.toList = rowsK w L
  tab : TabOk t (hashesK w L)
  nd : (L.map (·.2)).Nodup
  key : ∀ p ∈ L, KeyOf h p.2 p.1
  led : w.params.followText "set-order" = true ∨ t.led = true
  room : L.length * 5 < t.mask * 3
  few : L.length < 64
section
variable {P : Program} {w : World} {A : Around} {E : Value → Shared → Prop} {s : Shared} {a : Addr} {L : List KRow} {es : Array (Int × Value)} {ep : Nat} {t : SetTable}
theorem rowsK_len {es : Array (Int × Value)} {L : List KRow} (h : es.toList = rowsK w L) : es.size = L.length := by
  have := congrArg List.length h
  simpa [rowsK] using this
theorem SetK8.tabSize (R : SetK8 w s.heap a L es ep t) : t.place.size = L.length := by
  have := R.tab.sz
  simpa [hashesK] using this
theorem SetK8.fit (R : SetK8 w s.heap a L es ep t) : t.fits es.size = true := by
  have h1 := R.tabSize
  have h2 := rowsK_len R.rows
  have h3 := R.room
  simp only [SetTable.fits, SetTable.fill, R.tab.dm, Bool.and_eq_true, beq_iff_eq, decide_eq_true_eq]
  exact ⟨by omega, by
    show t.place.size + 0 ≤ t.mask
    omega⟩
theorem SetK8.row (R : SetK8 w s.heap a L es ep t) {i : Nat} {p : KRow} (h : L[i]? = some p) : es[i]? = some (p.2.hash w, Value.ref p.1) := by
  have : es.toList[i]? = some (p.2.hash w, Value.ref p.1) := by
    rw [R.rows, rowsK, List.getElem?_map, h]
    rfl
  simpa using this
theorem SetK8.stays (R : SetK8 w s.heap a L es ep t) : ¬ t.gaveWay = true := by
  simp [SetTable.gaveWay, mask_odd R.tab.mok]
theorem unseen {k : NestedKey} {b : Addr} {Q : Bool → Shared → Prop} (hk : KeyOf s.heap k b) {ys : List Value} (hy : ∀ y ∈ ys, ∃ k' c, y = Value.ref c ∧ KeyOf s.heap k' c) (q : Q false s) :
    wpAny (model P w) A (searchCouldBeSeen (.ref b) ys) Q E s := by
  unfold searchCouldBeSeen
  refine wpAny_bind ?_
  refine wpAny_forIn_list _ (fun left r s' => s' = s ∧ r.1 = none ∧ ∀ y ∈ left, y ∈ ys) _ (fun y left r s' ⟨z1, z2, z3⟩ => ?_) (fun r s' ⟨z1, z2, _⟩ => ?_) _ _ ⟨rfl, rfl, fun _ h => h⟩
  · subst z1
    obtain ⟨k', c, e, hc⟩ := hy y (z3 y List.mem_cons_self)
    subst e
    have go : (s' = s' ∧ (none : Option Bool) = none ∧ ∀ y ∈ left, y ∈ ys) := ⟨rfl, rfl, fun u hu => z3 u (List.mem_cons_of_mem _ hu)⟩
    dsimp only
    by_cases very : (b == c || (carriedByValue (.ref b) && carriedByValue (.ref c))) = true
    · exact wp_if_pos very (wpAny_pure go)
    · refine wp_if_neg very (wpAny_bind (quiet_key k _ 8 s' hk.1 hk.2 A E _ ?_))
      simp only [Bool.not_true, Bool.false_eq_true, if_false]
      refine wpAny_bind (quiet_key k' _ 8 s' hc.1 hc.2 A E _ ?_)
      simp only [Bool.not_true, Bool.false_eq_true, if_false]
      refine wpAny_bind (own_class k _ 8 s' A E _ hk.1 hk.2 ?_)
      simp only [Bool.false_eq_true, if_false]
      refine wpAny_bind (own_class k' _ 8 s' A E _ hc.1 hc.2 ?_)
      simp only [Bool.false_eq_true, if_false]
      exact wpAny_pure go
  · obtain ⟨r1, r2⟩ := r
    simp only at z2
    subst z1 z2
    exact wpAny_pure q
abbrev walkOf (t : SetTable) (h : Int) (c : Nat) : SetTable.Probe := nth t.mask (runAt t.mask (SetTable.bits h % (t.mask + 1)) (SetTable.bits h)) c
theorem walk_dummy (t : SetTable) (h : Int) (c : Nat) : (walkOf t h c).dummy = none := by
  have : ∀ (n : Nat) (p : SetTable.Probe), p.dummy = none → (nth t.mask p n).dummy = none := fun n => by
    induction n with
    | zero => exact fun p h => h
    | succ n ih => exact fun p h => ih (adv t.mask p) (by unfold adv; split <;> exact h)
  exact this c _ rfl
theorem walk_add (t : SetTable) (h : Int) (c q : Nat) : nth t.mask (walkOf t h c) q = walkOf t h (c + q) := (nth_add t.mask c _ q).symm
theorem seek (R : SetK8 w s.heap a L es ep t) {x : Addr} {k : NestedKey} (hx : KeyOf s.heap k x) (hu : A.units + 8 < cLine) {K : Nat} (hKf : K < 10 * SetTable.turns t.mask)
    (hK : way t.mask (k.hash w) K ∉ t.place.toList) (hKb : ∀ c, c < K → way t.mask (k.hash w) c ∈ t.place.toList) {Q : SetFound → Shared → Prop}
    (hin : k ∈ L.map (·.2) → Q (.there none) s) (hout : k ∉ L.map (·.2) → Q (.free (way t.mask (k.hash w) K) false) s) :
    ∀ (f c : Nat) (at_ : Option SetTable.Probe), at_.getD (t.probeStart (k.hash w)) = walkOf t (k.hash w) c → c ≤ K → K - c < f →
      (∀ (i : Nat) p, L[i]? = some p → p.2 = k → ∃ c', c ≤ c' ∧ c' < K ∧ t.place.toList[i]? = some (way t.mask (k.hash w) c')) →
      wpAny (model P w) A (setSearchFrom a (.ref x) (k.hash w) true f at_) Q E s
  | 0, c, _, _, _, hf, _ => absurd hf (Nat.not_lt_zero _)
  | f + 1, c, at_, hst, hc, hf, ahead => by
    obtain ⟨o, ho, hex, hd⟩ := R.ob
    have hstate : ∀ {Q'}, Q' (es, ep, t) s → wpAny (model P w) A (setState a) Q' E s := fun q => wpAny_setState_of ho hd R.fit q
    rw [setSearchFrom_succ]
    refine wpAny_bind (hstate ?_)
    dsimp only
    refine wp_if_neg R.stays (wpAny_bind (wpAny_pure ?_))
    have js : ∀ q, (nth t.mask (walkOf t (k.hash w) c) q).j = way t.mask (k.hash w) (c + q) := fun q => congrArg SetTable.Probe.j (walk_add t _ c q)
    let hAt : Nat → Int := fun i => (es[i]?.map (·.1)).getD 0
    have hAtEq : ∀ (i : Nat) p, L[i]? = some p → hAt i = p.2.hash w := fun i p hp => by
      show (es[i]?.map (·.1)).getD 0 = _
      rw [R.row hp]
      rfl
    have len := R.tabSize
    rcases go_spec t R.tab.ris R.tab.dm hAt (k.hash w) (10 * SetTable.turns t.mask) (K - c) _ (walk_dummy t (k.hash w) c) (by omega)
      (fun q hq => by rw [js]; exact hKb (c + q) (by omega)) (by rw [js, show c + (K - c) = K by omega]; exact hK) with ⟨q, i, hq, hi, hh, none_, hpr⟩ | ⟨none_, hpr⟩
    · rw [js] at hi
      have hpr' : t.probe hAt (k.hash w) (at_.getD (t.probeStart (k.hash w))) = some (.candidate (way t.mask (k.hash w) (c + q)) i (walkOf t (k.hash w) (c + (q + 1)))) := by
        rw [hst, ← js, ← walk_add]
        exact hpr
      show wpAny _ _ (match t.probe hAt (k.hash w) (at_.getD (t.probeStart (k.hash w))) with | _ => _) _ _ _
      rw [hpr']
      dsimp only
      have hil : i < L.length := by
        have := (List.getElem?_eq_some_iff.mp hi).1
        rw [Array.length_toList] at this
        omega
      obtain ⟨p, hp⟩ : ∃ p, L[i]? = some p := ⟨_, List.getElem?_eq_getElem hil⟩
      have hpm : p ∈ L := List.mem_of_getElem? hp
      have live := slot_live R.tab.ris hi
      have rest : wpAny (model P w) A (searchRest a (.ref x) (k.hash w) true f es t (way t.mask (k.hash w) (c + q)) i (walkOf t (k.hash w) (c + (q + 1)))) Q E s := by
        unfold searchRest
        rw [R.row hp]
        dsimp only
        refine wpAny_bind (wpAny_holding (eqAt_key p.2 k A s _ _ (R.key p hpm).1 hx.1 (by have := (R.key p hpm).2; omega) _ _ _ _ ?_))
        refine wpAny_bind (hstate ?_)
        dsimp only
        rw [← NestedKey.decide_eq]
        by_cases hkk : p.2 = k
        · exact wp_if_pos (by simp [hkk]) (wpAny_pure (hin (List.mem_map.mpr ⟨p, hpm, hkk⟩)))
        · refine wp_if_neg (by simp [hkk]) (wpAny_bind (wpAny_pure ?_))
          rw [sameMem]
          dsimp only
          simp only [if_true, live, R.row hp]
          refine wpAny_bind (wpAny_isSame_ref_self (wpAny_bind (wpAny_pure ?_)))
          simp only [if_true]
          refine wp_if_neg (by simp [hkk]) (seek R hx hu hKf hK hKb hin hout f (c + (q + 1)) _ rfl (by omega) (by omega) fun i0 p0 h0 hk0 => ?_)
          obtain ⟨c', a1, a2, a3⟩ := ahead i0 p0 h0 hk0
          refine ⟨c', ?_, a2, a3⟩
          have ne1 : ¬ c' < c + q := fun lt => none_ (c' - c) i0 (by omega) (by rw [js, show c + (c' - c) = c' by omega]; exact a3) ((hAtEq i0 p0 h0).trans (by rw [hk0]))
          have ne2 : c' ≠ c + q := fun e => by
            rw [e] at a3
            have := slot_live R.tab.ris a3
            rw [live] at this
            injection this with this
            rw [← this, hp] at h0
            cases h0
            exact hkk hk0
          omega
      by_cases hl : t.led = true
      · exact wp_if_neg (by simp [hl]) (wpAny_bind (wpAny_pure rest))
      · refine wp_if_pos (by simp [hl]) (wpAny_bind (unseen hx (fun y hy => ?_) (wp_if_neg (by decide) (wpAny_bind (wpAny_pure rest)))))
        obtain ⟨e, he, ee⟩ := List.mem_map.mp hy
        have he2 : e ∈ es.toList := by
          have h3 : e ∈ es ∧ e.1 = k.hash w := by simpa using he
          simpa using h3.1
        rw [R.rows] at he2
        obtain ⟨p2, hp2, e2⟩ := List.mem_map.mp he2
        exact ⟨p2.2, p2.1, by rw [← ee, ← e2], R.key p2 hp2⟩
    · have hpr' : t.probe hAt (k.hash w) (at_.getD (t.probeStart (k.hash w))) = some (.empty (way t.mask (k.hash w) K) none) := by
        rw [hst, show way t.mask (k.hash w) K = (nth t.mask (walkOf t (k.hash w) c) (K - c)).j by rw [js, show c + (K - c) = K by omega]]
        exact hpr
      show wpAny _ _ (match t.probe hAt (k.hash w) (at_.getD (t.probeStart (k.hash w))) with | _ => _) _ _ _
      rw [hpr']
      dsimp only
      refine wpAny_pure (hout fun hm => ?_)
      obtain ⟨p0, h0, hk0⟩ := List.mem_map.mp hm
      obtain ⟨i0, hi0, e0⟩ := List.getElem_of_mem h0
      have h00 : L[i0]? = some p0 := by rw [List.getElem?_eq_getElem hi0, e0]
      obtain ⟨c', a1, a2, a3⟩ := ahead i0 p0 h00 hk0
      exact none_ (c' - c) i0 (by omega) (by rw [js, show c + (c' - c) = c' by omega]; exact a3) ((hAtEq i0 p0 h00).trans (by rw [hk0]))
theorem seek0 (R : SetK8 w s.heap a L es ep t) {x : Addr} {k : NestedKey} (hx : KeyOf s.heap k x) (hu : A.units + 8 < cLine) {Q : SetFound → Shared → Prop} (hin : k ∈ L.map (·.2) → Q (.there none) s)
    (hout : ∀ K, k ∉ L.map (·.2) → way t.mask (k.hash w) K ∉ t.place.toList → (∀ c, c < K → way t.mask (k.hash w) c ∈ t.place.toList) → Q (.free (way t.mask (k.hash w) K) false) s) :
    wpAny (model P w) A (setSearch a (.ref x) (k.hash w) true) Q E s := by
  have len := R.tabSize
  have hroom := R.room
  obtain ⟨K, hKf, hK, hKb⟩ := R.tab.first (by rw [hashesK, List.length_map]; omega) (k.hash w)
  have big : 10 * SetTable.turns t.mask ≤ 1420 := by
    unfold SetTable.turns
    rcases R.tab.mok with e | e | e <;> omega
  unfold setSearch
  refine seek R hx hu hKf hK hKb hin (fun n => hout K n hK hKb) 100000 0 none rfl (Nat.zero_le _) (by omega) fun i p hp hk => ?_
  have hi : (hashesK w L)[i]? = some (k.hash w) := by rw [hashesK, List.getElem?_map, hp, ← hk]; rfl
  have hil : i < t.place.toList.length := by
    have := (List.getElem?_eq_some_iff.mp hp).1
    rw [Array.length_toList]
    omega
  have hj := List.getElem?_eq_getElem hil
  obtain ⟨c, hc, e⟩ := R.tab.before hK hi hj
  exact ⟨c, Nat.zero_le _, hc, by rw [hj, e]⟩
theorem reorder {L : List KRow} {es : Array (Int × Value)} {order : Array Nat} (hr : es.toList = rowsK w L) (hp : order.toList.Perm (List.range L.length)) :
    ∃ L2, (order.filterMap (es[·]?)).toList = rowsK w L2 ∧ L2.Perm L ∧ hashesK w L2 = order.toList.map fun i => (es.map (·.1)).getD i 0 := by
  have sz := rowsK_len hr
  have at_ : ∀ i (h : i < L.length), es[i]? = some ((L[i]).2.hash w, Value.ref (L[i]).1) := fun i h => by
    have : es.toList[i]? = some ((L[i]).2.hash w, Value.ref (L[i]).1) := by
      rw [hr, rowsK, List.getElem?_map, List.getElem?_eq_getElem h]
      rfl
    simpa using this
  have all : ∀ l : List Nat, (∀ i ∈ l, i < L.length) → l.filterMap (fun i => es[i]?) = rowsK w (l.filterMap fun i => L[i]?) ∧ hashesK w (l.filterMap fun i => L[i]?) = l.map fun i => (es.map (·.1)).getD i 0 := fun l => by
    induction l with
    | nil => exact fun _ => ⟨rfl, rfl⟩
    | cons i l ih =>
      intro hl
      have hi := hl i List.mem_cons_self
      obtain ⟨e1, e2⟩ := ih fun j hj => hl j (List.mem_cons_of_mem _ hj)
      rw [List.filterMap_cons_some (at_ i hi), List.filterMap_cons_some (List.getElem?_eq_getElem hi), e1]
      refine ⟨rfl, ?_⟩
      rw [List.map_cons, ← e2]
      have : (es.map (·.1)).getD i 0 = (L[i]).2.hash w := by simp [Array.getD_eq_getD_getElem?, at_ i hi]
      rw [this]
      rfl
  obtain ⟨e1, e2⟩ := all order.toList fun i hi => List.mem_range.mp (hp.mem_iff.mp hi)
  refine ⟨_, by rw [Array.toList_filterMap]; exact e1, ?_, e2⟩
  have same : (List.range L.length).filterMap (fun i => L[i]?) = L := by
    have : ∀ n, n ≤ L.length → (List.range n).filterMap (fun i => L[i]?) = L.take n := fun n => by
      induction n with
      | zero => exact fun _ => rfl
      | succ n ih =>
        intro hn
        rw [List.range_succ, List.filterMap_append, ih (Nat.le_of_succ_le hn), List.take_succ, List.getElem?_eq_getElem hn, List.filterMap_cons_some (List.getElem?_eq_getElem hn)]
        rfl
    rw [this _ (Nat.le_refl _), List.take_length]
  have := hp.filterMap fun i => L[i]?
  rw [same] at this
  exact this
end
section
variable {P : Program} {w : World} {A : Around} {E : Value → Shared → Prop} {s : Shared} {a : Addr} {L : List KRow} {es : Array (Int × Value)} {ep : Nat} {t : SetTable}
theorem relay {o : Obj} (ho : s.heap.get? a = some o) (hex : o.ExactSet) (hd : o.data = .set es ep t) (hrows : es.toList = rowsK w L) (hsz : t.place.size = es.size) (hdm : t.dummies = #[]) (hfl : es.size ≤ t.mask)
    (nd : (L.map (·.2)).Nodup) (key : ∀ p ∈ L, KeyOf s.heap p.2 p.1) (ld : w.params.followText "set-order" = true ∨ t.led = true) (few : L.length < 64) {wanted M : Nat}
    (hw : SetTable.sizeAbove wanted - 1 = M) (hM : MaskOk M) (hw2 : SetTable.sizeAbove wanted ≤ 128) (hn : L.length * 5 < M * 3) {Q : Unit → Shared → Prop}
    (hQ : ∀ h' L' es' ep' t', Heap.SameBut a s.heap h' → SetK8 w h' a L' es' ep' t' → L'.Perm L → Q () { s with heap := h' }) : wpAny (model P w) A (setRelay a wanted) Q E s := by
  have sz := rowsK_len hrows
  have hfit : t.fits es.size = true := by
    simp only [SetTable.fits, SetTable.fill, hdm, Bool.and_eq_true, beq_iff_eq, decide_eq_true_eq]
    exact ⟨hsz, by
      show t.place.size + 0 ≤ t.mask
      omega⟩
  obtain ⟨t', order, e, hp, T, em, el, _, ed⟩ := relaid_ok t (hs := es.map (·.1)) (wanted := wanted) hw hM (by rw [Array.size_map, sz]; omega)
  rw [Array.size_map, sz] at hp
  obtain ⟨L2, r1, r2, r3⟩ := reorder hrows hp
  rw [← r3] at T
  have hs2 : (order.filterMap (es[·]?)).size = es.size := by rw [rowsK_len r1, r2.length_eq, sz]
  rw [setRelay_eq]
  refine wpAny_bind (wpAny_setState_of ho hd hfit ?_)
  dsimp only
  refine wp_if_neg (by rw [sizeLine_eq]; omega) ?_
  rw [e]
  dsimp only
  refine wpAny_bind (wp_if_neg (by rw [hs2]; simp) (wpAny_pure ?_))
  dsimp only
  refine wpAny_storeSet_of ho hd ?_ (by rw [hs2, sz, sizeLine_eq]; omega)
  have sb : Heap.SameBut a s.heap (s.heap.update a (Obj.putSet (order.filterMap (es[·]?)) t')) := Heap.SameBut.update ..
  refine hQ _ L2 (order.filterMap (es[·]?)) (ep + 1) t' sb ⟨⟨_, store_at ho hd, ⟨hex.1, hex.2.1, hex.2.2⟩, rfl⟩, r1, T, (r2.map (·.2)).nodup_iff.mpr nd, fun p h => (key p (r2.mem_iff.mp h)).but ho hd sb, by rw [el]; exact ld, ?_, by rw [r2.length_eq]; exact few⟩ r2
  rw [r2.length_eq, em]
  exact hn
theorem adding (R : SetK8 w s.heap a L es ep t) {x : Addr} {k : NestedKey} (hx : KeyOf s.heap k x) (hu : A.units + 8 < cLine) (hfew : L.length + 1 < 64) {Q : Bool → Shared → Prop}
    (hQ : ∀ b h' L' es' ep' t', Heap.SameBut a s.heap h' → SetK8 w h' a L' es' ep' t' → (k ∈ L.map (·.2) → L' = L) → (k ∉ L.map (·.2) → L'.Perm ((x, k) :: L)) → Q b { s with heap := h' }) :
    wpAny (model P w) A (setAddHashed a (.ref x) (k.hash w)) Q E s := by
  obtain ⟨o, ho, hex, hd⟩ := R.ob
  have sz := rowsK_len R.rows
  have hroom := R.room
  have hstate : ∀ {Q'}, Q' (es, ep, t) s → wpAny (model P w) A (setState a) Q' E s := fun q => wpAny_setState_of ho hd R.fit q
  unfold setAddHashed
  refine wpAny_holding ?_
  rw [show (100000 : Nat) = 99999 + 1 from rfl, setAddHashedIn_succ]
  refine wpAny_bind (hstate ?_)
  dsimp only
  refine wp_if_neg (by simp [byScan, Value.scannable]) ?_
  refine wpAny_bind (seek0 R hx hu (fun hm => ?_) fun K hm hK hb => ?_)
  · exact wpAny_pure (hQ false s.heap L es ep t (Heap.SameBut.refl a s.heap) R (fun _ => rfl) fun z => absurd hm z)
  · dsimp only
    refine wpAny_bind (hstate ?_)
    dsimp only
    obtain ⟨q1, q2, q3, q4, q5, _, _, _, q9⟩ := R.tab.put hK hb
    generalize hpt : t.put (way t.mask (k.hash w) K) = pt at q1 q3 q4 q5 q9 ⊢
    obtain ⟨t0, p⟩ := pt
    dsimp only at q1 q3 q4 q5 q9 ⊢
    subst q1
    have hin : (SetTable.insertAt es (SetTable.below t.place (way t.mask (k.hash w) K)) (k.hash w, Value.ref x)).toList = rowsK w (L.take (SetTable.below t.place (way t.mask (k.hash w) K)) ++ (x, k) :: L.drop (SetTable.below t.place (way t.mask (k.hash w) K))) := by
      rw [SetTable.toList_insertAt, R.rows]
      simp [rowsK, List.map_take, List.map_drop]
    generalize SetTable.below t.place (way t.mask (k.hash w) K) = p at q2 q3 hin ⊢
    have pm := put_perm L p (x, k)
    have hhs : hashesK w (L.take p ++ (x, k) :: L.drop p) = (hashesK w L).take p ++ k.hash w :: (hashesK w L).drop p := by simp [hashesK, List.map_take, List.map_drop]
    rw [← hhs] at q3
    have hlen := pm.length_eq
    rw [List.length_cons] at hlen
    have nd1 : ((L.take p ++ (x, k) :: L.drop p).map (·.2)).Nodup := (pm.map (·.2)).nodup_iff.mpr (by rw [List.map_cons]; exact List.nodup_cons.mpr ⟨hm, R.nd⟩)
    have hes := rowsK_len hin
    generalize SetTable.insertAt es p (k.hash w, Value.ref x) = es1 at hin hes ⊢
    generalize L.take p ++ (x, k) :: L.drop p = L1 at pm hlen q3 nd1 hin hes
    have go : ∀ t1 : SetTable, (t1 = t0 ∨ t1 = { t0 with plain := false }) →
        wpAny (model P w) A (do
          storeSet a es1 t1
          if !false && t1.tooFull then setRelay a (SetTable.grown (es.size + 1))
          return true) Q E s := fun t1 ht1 => by
      have c1 : TabOk t1 (hashesK w L1) := by
        rcases ht1 with rfl | rfl
        · exact q3
        · exact ⟨q3.ris, q3.dm, q3.sz, q3.mok, q3.bd, q3.reach⟩
      have c2 : t1.mask = t.mask := by rcases ht1 with rfl | rfl <;> exact q4
      have c3 : t1.led = t.led := by rcases ht1 with rfl | rfl <;> exact q5
      have c4 : t1.fill = (hashesK w L).length + 1 := by rcases ht1 with rfl | rfl <;> exact q9
      have c4' : t1.fill = L.length + 1 := by rw [c4, hashesK, List.length_map]
      refine wpAny_bind (wpAny_storeSet_of ho hd ?_ (by rw [hes, sizeLine_eq]; omega))
      have sb : Heap.SameBut a s.heap (s.heap.update a (Obj.putSet es1 t1)) := Heap.SameBut.update ..
      have ho1 := store_at (es' := es1) (t' := t1) ho hd
      generalize s.heap.update a (Obj.putSet es1 t1) = h1 at sb ho1 ⊢
      have key1 : ∀ p ∈ L1, KeyOf h1 p.2 p.1 := fun p hp => by
        rcases List.mem_cons.mp (pm.mem_iff.mp hp) with e | hp
        · rw [e]
          exact hx.but ho hd sb
        · exact (R.key p hp).but ho hd sb
      have ld1 : w.params.followText "set-order" = true ∨ t1.led = true := by rw [c3]; exact R.led
      by_cases hf : t1.tooFull = true
      · have hfull : (L.length + 1) * 5 ≥ t1.mask * 3 := by
          have h := hf
          unfold SetTable.tooFull at h
          rw [decide_eq_true_eq, c4'] at h
          exact h
        rw [sz]
        have sz1 : t1.place.size = es1.size := by
          have := c1.sz
          rw [this, hes, hashesK, List.length_map]
        have two : (t.mask = 7 ∧ L.length = 4) ∨ (t.mask = 31 ∧ L.length = 18) := by
          rw [c2] at hfull
          rcases R.tab.mok with e | e | e <;> rw [e] at hfull hroom
          · exact .inl ⟨e, by omega⟩
          · exact .inr ⟨e, by omega⟩
          · omega
        have more : ∀ M, SetTable.sizeAbove (SetTable.grown (L.length + 1)) - 1 = M → MaskOk M → SetTable.sizeAbove (SetTable.grown (L.length + 1)) ≤ 128 → (L.length + 1) * 5 < M * 3 →
            wpAny (model P w) A (setRelay a (SetTable.grown (L.length + 1))) (fun _ s' => wpAny (model P w) A (pure true) Q E s') E { s with heap := h1 } := fun M m1 m2 m3 m4 =>
          relay (s := { s with heap := h1 }) ho1 ⟨hex.1, hex.2.1, hex.2.2⟩ rfl hin sz1 c1.dm (by rw [hes, c2]; rcases two with ⟨e, e2⟩ | ⟨e, e2⟩ <;> omega) nd1 key1 ld1 (by omega) m1 m2 m3 (by rw [hlen]; exact m4) fun h2 L2 es2 ep2 t2 sb2 R2 pm2 =>
            wpAny_pure (hQ true h2 L2 es2 ep2 t2 (sb.trans sb2) R2 (fun z => absurd z hm) fun _ => pm2.trans pm)
        refine wp_if_pos (by simp [hf]) (wpAny_bind ?_)
        rcases two with ⟨_, e2⟩ | ⟨_, e2⟩
        · exact more 31 (by rw [e2, size_20]) (.inr (.inl rfl)) (by rw [e2, size_20]; decide) (by omega)
        · exact more 127 (by rw [e2, size_76]) (.inr (.inr rfl)) (by rw [e2, size_76]; decide) (by omega)
      · refine wp_if_neg (by simp [hf]) (wpAny_pure (hQ true h1 L1 es1 (ep + 1) t1 sb ⟨⟨_, ho1, ⟨hex.1, hex.2.1, hex.2.2⟩, rfl⟩, hin, c1, nd1, key1, ld1, ?_, by omega⟩ (fun z => absurd z hm) fun _ => pm))
        have h := hf
        unfold SetTable.tooFull at h
        rw [decide_eq_true_eq, c4'] at h
        omega
    by_cases pl : t0.plain = true
    · refine wp_if_pos pl (wpAny_bind (by_value k _ 8 s A E _ hx.1 hx.2 fun b => ?_))
      cases b with
      | true => exact go t0 (.inl rfl)
      | false => exact go { t0 with plain := false } (.inr rfl)
    · exact wp_if_neg pl (wpAny_bind (wpAny_pure (go t0 (.inl rfl))))
end
structure Has (ks : List KRow) (i : Nat) (L : List KRow) : Prop where
  sub : ∀ p ∈ L, p ∈ ks.take i
  all : ∀ p ∈ ks.take i, p.2 ∈ L.map (·.2)
  len : L.length ≤ i
theorem Has.next {ks L L' : List KRow} {i : Nat} {x : KRow} (g : Has ks i L) (h : ks[i]? = some x) (old : x.2 ∈ L.map (·.2) → L' = L) (new : x.2 ∉ L.map (·.2) → L'.Perm (x :: L)) : Has ks (i + 1) L' := by
  have tk : ks.take (i + 1) = ks.take i ++ [x] := by rw [List.take_succ, h]; rfl
  by_cases hm : x.2 ∈ L.map (·.2)
  · rw [old hm]
    refine ⟨fun p hp => by rw [tk]; exact List.mem_append_left _ (g.sub p hp), fun p hp => ?_, Nat.le_succ_of_le g.len⟩
    rw [tk] at hp
    rcases List.mem_append.mp hp with z | z
    · exact g.all p z
    · rw [List.mem_singleton.mp z]
      exact hm
  · have pm := new hm
    refine ⟨fun p hp => ?_, fun p hp => ?_, by rw [pm.length_eq, List.length_cons]; exact Nat.succ_le_succ g.len⟩
    · rw [tk]
      rcases List.mem_cons.mp (pm.mem_iff.mp hp) with e | z
      · rw [e]
        simp
      · exact List.mem_append_left _ (g.sub p z)
    · rw [(pm.map (·.2)).mem_iff, List.map_cons]
      rw [tk] at hp
      rcases List.mem_append.mp hp with z | z
      · exact List.mem_cons_of_mem _ (g.all p z)
      · rw [List.mem_singleton.mp z]
        exact List.mem_cons_self
theorem SetK8.on {w : World} {h h' : Heap} {a : Addr} {L : List KRow} {es : Array (Int × Value)} {ep : Nat} {t : SetTable} (R : SetK8 w h a L es ep t) (ha : ∀ o, h.get? a = some o → h'.get? a = some o) (hk : ∀ p ∈ L, KeyOf h' p.2 p.1) : SetK8 w h' a L es ep t := by
  obtain ⟨o, ho, r⟩ := R.ob
  exact { R with ob := ⟨o, ha o ho, r⟩, key := hk }
abbrev set0 (w : World) : Obj := { cls := .type "set", dict := none, data := .set #[] 0 (.fresh 0 0 (!w.params.followText "set-order")) }
theorem SetK8.new {w : World} {h : Heap} {a : Addr} (ho : h.get? a = some (set0 w)) : SetK8 w h a [] #[] 0 (.fresh 0 0 (!w.params.followText "set-order")) where
  ob := ⟨_, ho, ⟨rfl, rfl, rfl⟩, rfl⟩
  rows := rfl
  tab := ⟨.nil, rfl, rfl, .inl rfl, fun _ h => (by cases h), fun _ _ _ h => (by simp [hashesK] at h)⟩
  nd := .nil
  key := fun _ h => (by cases h)
  led := by
    show _ ∨ (!w.params.followText "set-order") = true
    cases w.params.followText "set-order" <;> simp
  room := by
    show 0 * 5 < 7 * 3
    decide
  few := by
    show 0 < 64
    decide
section
variable {P : Program} {w : World} {A : Around} {E : Value → Shared → Prop} {s : Shared}
theorem fill_set {I : Addr} {fp wr : List Addr} {G : Array GenState → Array GenState → Prop} {n : Nat} {Pv : Nat → Value → Prop} {St : Nat → Shared → Prop} {R : Result → Shared → Prop}
    (W : WalksS P w A.in1 I fp wr G n Pv St) (S : Addr) (hSf : S ∉ fp) (ks : List KRow) (hn : n = ks.length) (hfew : ks.length < 64) (hval : ∀ i v, Pv i v → ∃ p, ks[i]? = some p ∧ v = .ref p.1)
    (h0 : Heap) (hk : ∀ p ∈ ks, KeyOf h0 p.2 p.1) (hS0 : h0.get? S = none) (hw0 : ∀ b ∈ wr, h0.get? b = none) (hu : A.in1.units + 8 < cLine) :
    ∀ (k i : Nat) (s : Shared), n - i = k → i ≤ n → St i s → (∀ b o, h0.get? b = some o → s.heap.get? b = some o) → (∃ L es ep t, SetK8 w s.heap S L es ep t ∧ Has ks i L) →
      (∀ s' L es ep t, Moved (S :: wr) G s s' → SetK8 w s'.heap S L es ep t → Has ks n L → (∀ b o, h0.get? b = some o → s'.heap.get? b = some o) → R (.ok (.ret .none)) s') →
      codeAny (model P w) A (.builtin "set.update.loop" ⟨[.ref S, .ref I], []⟩) R s := by
  have nw : S ∉ wr := fun h => hSf (W.sub _ h)
  have up : ∀ b ∈ wr, b ∈ S :: wr := fun b hb => List.mem_cons_of_mem _ hb
  have old : ∀ {s s' : Shared}, Moved wr G s s' → (∀ b o, h0.get? b = some o → s.heap.get? b = some o) → ∀ b o, h0.get? b = some o → s'.heap.get? b = some o := fun hm hkp b o e =>
    hm.heap b o (fun hb => by rw [hw0 b hb] at e; cases e) (hkp b o e)
  have mem : ∀ {i L}, Has ks i L → ∀ p ∈ L, p ∈ ks := fun g p hp => List.mem_of_mem_take (g.sub p hp)
  intro k
  induction k with
  | zero =>
    intro i s hk' hi hst hkp ⟨L, es, ep, t, hS, g⟩ hR
    obtain rfl : i = n := by omega
    refine codeAny_builtin F.entry_set_update_loop ?_
    rw [Around.under_plainId F.plain_set_update_loop _]
    refine wpAny_bind (m := pyNext (.ref I)) (W.done s _ _ hst fun s' hm => ?_)
    have hkp' := old hm hkp
    exact wpAny_pure (hR s' L es ep t (hm.mono up) (hS.on (fun o e => hm.heap S o nw e) fun p hp => (hk p (mem g p hp)).on hkp') g hkp')
  | succ k ih =>
    intro i s hk' hi hst hkp ⟨L, es, ep, t, hS, g⟩ hR
    have lt : i < n := by omega
    refine codeAny_builtin F.entry_set_update_loop ?_
    rw [Around.under_plainId F.plain_set_update_loop _]
    refine wpAny_bind (m := pyNext (.ref I)) (W.item i s _ _ lt hst fun v s' hP hst' hm => ?_)
    obtain ⟨p, hp, rfl⟩ := hval i v hP
    have hkp' := old hm hkp
    have hS' : SetK8 w s'.heap S L es ep t := hS.on (fun o e => hm.heap S o nw e) fun q hq => (hk q (mem g q hq)).on hkp'
    have hx : KeyOf s'.heap p.2 p.1 := (hk p (List.mem_of_getElem? hp)).on hkp'
    refine wpAny_bind (m := holding [Value.ref p.1] (setAdd S (.ref p.1))) (wpAny_holding ?_)
    unfold setAdd
    refine wpAny_holding (wpAny_bind (pyHash_key p.2 _ _ _ _ hx.1 (by have := hx.2; omega) ?_))
    refine adding (s := { s' with toks := s'.toks + p.2.draws }) hS' hx hu (by have := g.len; omega) fun b h' L' es' ep' t' hsb hS2 c1 c2 => ?_
    have hkp2 : ∀ b o, h0.get? b = some o → h'.get? b = some o := fun b o e => (hsb.2 b (fun z => by rw [z, hS0] at e; cases e)).trans (hkp' b o e)
    refine wpAny_pure ⟨plainId_quiet F.plain_set_update_loop _, ih (i + 1) _ (by omega) lt (W.frame _ s' _ _ hst' (Nat.le_add_right _ _) fun b hb o e => ?_) hkp2 ⟨L', es', ep', t', hS2, g.next hp c1 c2⟩ fun s'' L2 es2 ep2 t2 hm'' hS'' g'' hkp'' => ?_⟩
    · rw [hsb.2 b (fun h : b = S => hSf (by rw [← h]; exact hb))]
      exact e
    · refine hR s'' L2 es2 ep2 t2 (Moved.trans W.gtrans ((hm.mono up).then_heap (Nat.le_add_right _ _) fun b o hb e => ?_) hm'') hS'' g'' hkp''
      rw [hsb.2 b (fun h : b = S => hb (by rw [h]; exact List.mem_cons_self))]
      exact e
set_option maxHeartbeats 3200000 in
theorem set_call {l : Addr} {items : Array Value} (ks : List KRow) {Q : Value → Shared → Prop} (hh : A.handled = none) (hl : s.heap.IsList l items) (hit : items.toList = ks.map fun p => Value.ref p.1)
    (hk : ∀ p ∈ ks, KeyOf s.heap p.2 p.1) (hfew : ks.length < 64) (hu : A.units + 16 < cLine)
    (h : ∀ (h' : Heap) (tk : Nat) L es ep t, SetK8 w h' s.heap.objs.size L es ep t → Has ks ks.length L → (∀ b o, s.heap.get? b = some o → h'.get? b = some o) → Q (.ref s.heap.objs.size) { s with heap := h', toks := tk }) :
    wpAny (model P w) A (call (.type "set") [.ref l]) Q E s := by
  have hisz : items.size = ks.length := by
    have q := congrArg List.length hit
    simpa using q
  let a := s.heap.objs.size
  let hs := s.heap.push (set0 w)
  obtain ⟨c, tl, hmro⟩ := F.called_set.mro
  have m1 := F.called_set.made
  have m2 := F.called_set.sub
  refine wpAny_call (codeAny_of_tree ?_)
  show wpAny _ _ (callAny (.type "set") _) _ _ _
  refine wpAny_pure ⟨Code.quiet_builtin _ (by decide +kernel), codeAny_builtin F.entry_type_call ?_⟩
  rw [Around.under_plain (weight_type_call_type "set" [.ref l] []) rfl]
  have h1 := F.called_set.notType
  have h2 := F.called_set.canCreate
  have hct := F.typeCall_set_1 (.ref l)
  repeat (any_goals (first | assumption | wp_step))
  refine codeAny_mono (code_set_led1 (.ref l) (E := E) (Q₁ := fun obj s₁ => obj = .ref s.heap.objs.size ∧ s₁ = { s with heap := s.heap.push (set0 w) }) ⟨rfl, rfl⟩) fun r s₁ hr => ?_
  cases r with
  | error e => exact hr
  | ok fl =>
    cases fl with
    | ret obj =>
      obtain ⟨rfl, rfl⟩ := hr
      have hS : (s.heap.push (set0 w)).get? s.heap.objs.size = some (set0 w) := Heap.get?_push_size _ rfl
      have hT : Shared.TypeIs { s with heap := s.heap.push (set0 w) } (.ref s.heap.objs.size) "set" := ⟨_, hS, rfl⟩
      have hli := F.called_set.init.lookup
      have hbi := F.called_set.init.bind (.ref s.heap.objs.size)
      repeat (any_goals (first | assumption | wp_step))
      refine codeAny_mono (codeAny_call_builtin (R := wants (fun r s₂ => r = .none ∧ ∃ h' tk L es ep t, s₂ = { s with heap := h', toks := tk } ∧ SetK8 w h' s.heap.objs.size L es ep t ∧ Has ks ks.length L ∧
          (∀ b o, s.heap.get? b = some o → h'.get? b = some o)) E) F.called_set.init.plain F.entry_set_init (check_set_init_1 hT ?_)) fun r₂ s₂ hr₂ => ?_
      · obtain ⟨ol, hol, hcl, nl, hdl⟩ := hl
        obtain ⟨ocls, odict, odata, oslots⟩ := ol
        simp only at hcl hdl
        subst hcl
        subst hdl
        have hol' : (s.heap.push (set0 w)).get? l = some { cls := .type "list", dict := odict, data := .seq items nl, slots := oslots } := Heap.get?_push_of_some _ hol
        have s1 := F.sub_list_set
        have s2 := F.sub_list_frozenset
        have s3 : (Value.type "list" == Value.type "dict") = false := by decide
        have hl1 : (s.heap.push (set0 w)).IsList l items := ⟨_, hol', rfl, nl, rfl⟩
        unfold Builtin.«set.__init__» noKeywords Builtin.Frozenset.updateFrom
        generalize hPI : pyIter = PI
        wp_walk
        subst hPI
        refine wpAny_pyIter_list hl1 (wpAny_bind (wpAny_runValue ?_))
        have hlS : l < s.heap.objs.size := Heap.lt_size hol
        have hneI : l ≠ (s.heap.push (set0 w)).objs.size := by
          rw [Heap.size_push]
          exact Nat.ne_of_lt (Nat.lt_succ_of_lt hlS)
        have hSf : s.heap.objs.size ∉ [(s.heap.push (set0 w)).objs.size, l] := by
          rw [Heap.size_push]
          simp only [List.mem_cons, List.not_mem_nil, or_false, not_or]
          exact ⟨Nat.ne_of_lt (Nat.lt_succ_self _), Nat.ne_of_gt hlS⟩
        have hval : ∀ (i : Nat) (v : Value), items[i]? = some v → ∃ p, ks[i]? = some p ∧ v = .ref p.1 := fun i v hv => by
          have q : items.toList[i]? = some v := by simpa using hv
          rw [hit, List.getElem?_map] at q
          cases hq : ks[i]? with
          | none => rw [hq] at q; cases q
          | some p =>
            rw [hq] at q
            exact ⟨p, rfl, (Option.some.inj q).symm⟩
        have none_of : ∀ b, s.heap.objs.size ≤ b → s.heap.get? b = none := fun b hb => by
          cases q : s.heap.get? b with
          | none => rfl
          | some o => exact absurd (Nat.lt_of_lt_of_le (Heap.lt_size q) hb) (Nat.lt_irrefl _)
        refine fill_set ((Walks.list (A := A.in1.in1.in1) (by simp [hh]) _ l hneI items).toS) s.heap.objs.size hSf ks hisz hfew hval s.heap hk (none_of _ (Nat.le_refl _)) (fun b hb => none_of b (by
            rw [List.mem_singleton.mp hb, Heap.size_push]
            exact Nat.le_succ _)) (by
            show A.units + 1 + 1 + 1 + 8 < cLine
            omega) (items.size - 0) 0 _ (by omega) (Nat.zero_le _)
          ⟨⟨_, Heap.get?_push_size _ rfl, rfl, rfl⟩, (hl1.push _)⟩ (fun b o e => Heap.get?_push_of_some _ (Heap.get?_push_of_some _ e)) ⟨[], #[], 0, _, SetK8.new (Heap.get?_push_of_some _ hS), fun _ h => (by cases h), fun p h => (by simp at h), Nat.le_refl _⟩ ?_
        intro s' L es ep t hm hS' g' hkp
        obtain ⟨h', g2, d', tk', os'⟩ := s'
        have eg : g2 = s.gens := hm.gens
        have ed : d' = s.drawn := hm.drawn
        have eo : os' = s.os := hm.os
        subst eg
        subst ed
        subst eo
        rw [hisz] at g'
        show wpAny _ _ _ _ _ _
        refine wpAny_pure ?_
        show wpAny _ _ (ret Value.none) _ _ _
        exact wpAny_pure ⟨rfl, h', tk', L, es, ep, t, rfl, hS', g', hkp⟩
      · cases r₂ with
        | error e => exact hr₂
        | ok fl₂ =>
          cases fl₂ with
          | ret r =>
            obtain ⟨rfl, h', tk, L, es, ep, t, rfl, hS', g', hk'⟩ := hr₂
            repeat (any_goals (first | assumption | wp_step))
            exact h _ _ _ _ _ _ hS' g' hk'
          | _ => exact hr₂.elim
    | _ => exact hr.elim
end
theorem perm_map {α β : Type} {f : α → β} {vs ws : List β} (h : vs.Perm ws) : ∀ {L : List α}, ws = L.map f → ∃ L1 : List α, L1.Perm L ∧ vs = L1.map f := by
  induction h with
  | nil =>
    intro L e
    obtain rfl : L = [] := List.map_eq_nil_iff.mp e.symm
    exact ⟨[], .refl _, rfl⟩
  | @cons x l1 l2 _ ih =>
    intro L e
    cases L with
    | nil => cases e
    | cons p L =>
      simp only [List.map_cons, List.cons.injEq] at e
      obtain ⟨L1, p1, e1⟩ := ih e.2
      exact ⟨p :: L1, p1.cons p, by rw [List.map_cons, ← e1, e.1]⟩
  | swap x y l =>
    intro L e
    match L, e with
    | p :: q :: L, e =>
      simp only [List.map_cons, List.cons.injEq] at e
      exact ⟨q :: p :: L, .swap p q L, by simp [e.1, e.2.1, e.2.2]⟩
  | trans _ _ ih1 ih2 =>
    intro L e
    obtain ⟨L1, p1, e1⟩ := ih2 e
    obtain ⟨L2, p2, e2⟩ := ih1 e1
    exact ⟨L2, p2.trans p1, e2⟩
theorem each_map_self {α β : Type} {f : β → α} : ∀ bs : List β, PySem.W.EachIs (fun v b => v = f b) (bs.map f) bs
  | [] => .nil
  | b :: bs => .cons rfl (each_map_self bs)
theorem each_is_map {α β : Type} {f : β → α} : ∀ {vs : List α} {bs : List β}, PySem.W.EachIs (fun v b => v = f b) vs bs → vs = bs.map f
  | _, _, .nil => rfl
  | _, _, .cons e t => by rw [e, each_is_map t, List.map_cons]
theorem each_map_of {α β : Type} {f : β → α} {R : α → β → Prop} : ∀ {bs : List β}, (∀ b ∈ bs, R (f b) b) → PySem.W.EachIs R (bs.map f) bs
  | [], _ => .nil
  | b :: bs, h => .cons (h b List.mem_cons_self) (each_map_of fun c hc => h c (List.mem_cons_of_mem _ hc))
section
variable {P : Program} {w : World} {A : Around} {E : Value → Shared → Prop} {s : Shared} {a : Addr} {L : List KRow} {es : Array (Int × Value)} {ep : Nat} {t : SetTable}
theorem sorted_call (R : SetK8 w s.heap a L es ep t) (hh : A.handled = none) (rd : ∀ p ∈ L, ∃ as, Reads s.heap (.ref p.1) p.2.data as) (al : PySem.W.AllAlike (L.map fun p => p.2.data)) (so : PySem.W.Sortable (L.map fun p => p.2.data))
    (hu : ∀ p ∈ L, A.units + 2 + p.2.data.depth < cLine) {Q : Value → Shared → Prop}
    (hQ : ∀ s' p (out : Array Value) (c : Nat) (L' : List KRow), (∀ b o, s.heap.get? b = some o → s'.heap.get? b = some o) → s'.gens = s.gens → s'.os = s.os → s.heap.objs.size ≤ p → s'.heap.get? p = some (seqObj "list" out c) →
      L'.Perm L → out.toList = (L'.mergeSort (PySem.W.dataLe false fun p => p.2.data)).map (fun q => Value.ref q.1) → Q (.ref p) s') :
    wpAny (model P w) A (call (.builtin "sorted") [.ref a]) Q E s := by
  obtain ⟨o, ho, hex, hd⟩ := R.ob
  have sz := rowsK_len R.rows
  have hfew := R.few
  refine PySem.Calls.call_function_entry kind_sorted plain_sorted entry_sorted (args_sorted1 _) ?_
  unfold Builtin.«sorted»
  refine wpAny_bind (m := checkCount "sorted" 1 1 _) (wpAny_pure ?_)
  refine wpAny_bind (collect_set (A := A.in1) hh ⟨o, ho, hex.1, hd⟩ R.fit (by unfold scanBound; omega) R.tab.ris R.led fun s1 vs k1 hz g1 o1 pm => ?_)
  have e0 : es.toList.map (·.2) = L.map fun q => Value.ref q.1 := by
    rw [R.rows, rowsK, List.map_map]
    rfl
  obtain ⟨L', pL, rfl⟩ := perm_map pm e0
  have hl : (L'.map fun q => Value.ref q.1).length < 64 := by rw [List.length_map, pL.length_eq]; exact hfew
  have hl2 : (L'.map fun q => Value.ref q.1).length ≤ sizeLine := by rw [sizeLine_eq]; omega
  refine wpAny_bind (wpAny_newList ?_ hl2)
  generalize hvs : (L'.map fun q => Value.ref q.1) = vs at hl hl2 ⊢
  have hoL : (s1.heap.push (seqObj "list" vs.toArray 0)).get? s1.heap.objs.size = some (seqObj "list" vs.toArray 0) := Heap.get?_push_size _ rfl
  have old : ∀ b u, s.heap.get? b = some u → (PySem.W.sortingHeap (s1.heap.push (seqObj "list" vs.toArray 0)) s1.heap.objs.size vs).get? b = some u := fun b u e => by
    have q := k1 b u e
    exact PySem.W.sortingHeap_old (Nat.ne_of_lt (Heap.lt_size q)) (Heap.get?_push_of_some _ q)
  have mem : ∀ p ∈ L', p ∈ L := fun p h => pL.mem_iff.mp h
  have al' : PySem.W.AllAlike (L'.map fun p => p.2.data) := fun d hd d' hd' => al d ((pL.map _).mem_iff.mp hd) d' ((pL.map _).mem_iff.mp hd')
  have so' : PySem.W.Sortable (L'.map fun p => p.2.data) := so.imp (fun h d hd => h d ((pL.map _).mem_iff.mp hd)) fun h d hd => h d ((pL.map _).mem_iff.mp hd)
  have er : PySem.W.EachIs (fun v (b : KRow) => ∃ as, Reads (PySem.W.sortingHeap (s1.heap.push (seqObj "list" vs.toArray 0)) s1.heap.objs.size vs) v b.2.data as) vs L' := by
    rw [← hvs]
    refine each_map_of fun b hb => ?_
    obtain ⟨as, r⟩ := rd b (mem b hb)
    exact ⟨as, PyProof.Rows.Reads.keeps (fun b o e => by rw [hvs]; exact old b o e) r⟩
  refine wpAny_bind (wpAny_holding (wpAny_call_entry slot_list_sort ⟨_, hoL, rfl⟩ entry_list_sort ?body (args_list_sort _)))
  case body =>
    refine PySem.W.list_sort_vals (κ := PySem.W.dataKind (PySem.W.sortingHeap (s1.heap.push (seqObj "list" vs.toArray 0)) s1.heap.objs.size vs) (L'.map fun p => p.2.data)) (s := { s1 with heap := s1.heap.push (seqObj "list" vs.toArray 0) }) hoL
      (PySem.W.SortsAt.data (s := { s1 with heap := PySem.W.sortingHeap (s1.heap.push (seqObj "list" vs.toArray 0)) s1.heap.objs.size vs }) (PySem.W.each_map (fun p : KRow => p.2.data) er) al' so' fun d hd => ?_) hl2 ⟨.none, rfl, ?_⟩
    · obtain ⟨p, hp, rfl⟩ := List.mem_map.mp hd
      exact hu p (mem p hp)
    · refine wpAny_pure ⟨_, rfl, ?_⟩
      have se := PySem.W.sortVals_data (R := fun v (b : KRow) => v = Value.ref b.1) false (by rw [← hvs]; exact each_map_self L') er al'
      obtain ⟨c, hc⟩ := sortedHeap_at (vs := vs) (out := (PySem.W.sortVals (PySem.W.dataKind (PySem.W.sortingHeap (s1.heap.push (seqObj "list" vs.toArray 0)) s1.heap.objs.size vs) (L'.map fun p => p.2.data)) false vs vs).toArray) hoL
      refine hQ _ _ _ c L' (fun b u e => ?_) g1 o1 hz hc pL (each_is_map se)
      have q := k1 b u e
      have lt := Heap.lt_size q
      show (sortedHeap (s1.heap.push (seqObj "list" vs.toArray 0)) s1.heap.objs.size vs _).get? b = some u
      rw [sortedHeap_old (Nat.ne_of_lt lt) (by rw [size_push']; exact Nat.lt_succ_of_lt lt)]
      exact Heap.get?_push_of_some _ q
end
end PD
namespace PD
open PySem PySem.Spec PyProof.Rows L2
theorem toKeys_cons {x : PyData} {xs : List PyData} {ks : List NestedKey} (h : toKeys (x :: xs) = some ks) : ∃ k r, ks = k :: r ∧ toKey x = some k ∧ toKeys xs = some r := by
  simp only [toKeys] at h
  cases e1 : toKey x with
  | none => rw [e1] at h; cases h
  | some k =>
    rw [e1] at h
    cases e2 : toKeys xs with
    | none => rw [e2] at h; cases h
    | some r =>
      rw [e2] at h
      exact ⟨k, r, (Option.some.inj h).symm, rfl, rfl⟩
theorem toKey_tup {xs : List PyData} {k : NestedKey} (h : toKey (.tuple xs) = some k) : ∃ ks, k = .tup ks ∧ toKeys xs = some ks := by
  simp only [toKey, Option.map_eq_some_iff] at h
  obtain ⟨ks, e, rfl⟩ := h
  exact ⟨ks, rfl, e⟩
mutual
theorem key_data : ∀ {d : PyData} {k : NestedKey}, toKey d = some k → k.data = d
  | .none, _, h => by cases h; rfl
  | .int _, _, h => by cases h; rfl
  | .str _, _, h => by cases h; rfl
  | .tuple xs, _, h => by
    obtain ⟨ks, rfl, e⟩ := toKey_tup h
    rw [NestedKey.data, keys_data e]
  | .bool _, _, h => by cases h
  | .list _, _, h => by cases h
  | .dict _, _, h => by cases h
theorem keys_data : ∀ {ds : List PyData} {ks : List NestedKey}, toKeys ds = some ks → NestedKey.datas ks = ds
  | [], _, h => by cases h; rfl
  | x :: xs, _, h => by
    obtain ⟨k, r, rfl, e1, e2⟩ := toKeys_cons h
    rw [NestedKey.datas, key_data e1, keys_data e2]
end
mutual
theorem eqv_key : ∀ {x y : PyData} {a b : NestedKey}, toKey x = some a → toKey y = some b → (PyData.eqv x y = true ↔ x = y)
  | .none, y, _, _, _, h => by cases y <;> simp [toKey, PyData.eqv] at h ⊢
  | .int i, y, _, _, _, h => by cases y <;> simp [toKey, PyData.eqv] at h ⊢
  | .str i, y, _, _, _, h => by cases y <;> simp [toKey, PyData.eqv] at h ⊢
  | .tuple xs, y, _, _, h1, h => by
    cases y with
    | tuple ys =>
      obtain ⟨_, _, e1⟩ := toKey_tup h1
      obtain ⟨_, _, e2⟩ := toKey_tup h
      rw [PyData.eqv, eqv_keys e1 e2]
      simp
    | _ => simp [toKey, PyData.eqv] at h ⊢
  | .bool _, _, _, _, h, _ => by cases h
  | .list _, _, _, _, h, _ => by cases h
  | .dict _, _, _, _, h, _ => by cases h
theorem eqv_keys : ∀ {xs ys : List PyData} {a b : List NestedKey}, toKeys xs = some a → toKeys ys = some b → (PyData.eqvAll xs ys = true ↔ xs = ys)
  | [], [], _, _, _, _ => by simp [PyData.eqvAll]
  | [], _ :: _, _, _, _, _ => by simp [PyData.eqvAll]
  | _ :: _, [], _, _, _, _ => by simp [PyData.eqvAll]
  | x :: xs, y :: ys, _, _, h1, h2 => by
    obtain ⟨_, _, _, e1, e2⟩ := toKeys_cons h1
    obtain ⟨_, _, _, f1, f2⟩ := toKeys_cons h2
    rw [PyData.eqvAll, Bool.and_eq_true, eqv_key e1 f1, eqv_keys e2 f2]
    simp
end
section
variable {X : Cx} {pins : List (Addr × Obj)} {σ : L2.St} {H : Hp} {s : Shared} {F : Addr → Prop}
mutual
theorem Rp.nkey (I : Inv X pins σ H s) : ∀ {d : PyData} {v : V} {u : Value} {k : NestedKey}, Rp (.of X) F H d v → RelV v u → toKey d = some k → NestedIs s.heap k u
  | .none, _, _, _, .non, r, h => by
    cases h
    rw [show _ = Value.none from r]
    exact .none
  | .int i, _, _, _, .int _, r, h => by
    cases h
    obtain ⟨t, rfl⟩ := r
    exact .int _ _
  | .str i, _, _, _, .str _, r, h => by
    cases h
    obtain ⟨t, rfl⟩ := r
    exact .text _ _
  | .tuple xs, _, _, _, .tup hx ra, r, h => by
    obtain ⟨ks, rfl, e⟩ := toKey_tup h
    obtain ⟨its, rv, ⟨o, ho, hc, n, hd⟩, _⟩ := I.tuple hx
    rw [show _ = Value.ref _ from r]
    exact .tup ho hc hd (by simpa using RpAll.nkeys I ra rv e)
  | .bool _, _, _, _, _, _, h => by cases h
  | .list _, _, _, _, _, _, h => by cases h
  | .dict _, _, _, _, _, _, h => by cases h
theorem RpAll.nkeys (I : Inv X pins σ H s) : ∀ {ds : List PyData} {vs : List V} {us : List Value} {ks : List NestedKey}, RpAll (.of X) F H ds vs → Vals vs us → toKeys ds = some ks → NestedAll s.heap ks us
  | [], _, _, _, .nil, .nil, h => by
    cases h
    exact .nil
  | d :: ds, _, _, _, .cons r t, .cons q u, h => by
    obtain ⟨_, _, rfl, e1, e2⟩ := toKeys_cons h
    exact .cons (Rp.nkey I r q e1) (RpAll.nkeys I t u e2)
end
end
def ddup : List PyData → List PyData
  | [] => []
  | d :: r => if (ddup r).any (PyData.eqv d) = true then ddup r else d :: ddup r
def dsort (ds : List PyData) : List PyData := ds.mergeSort (PySem.W.dataLe false fun d => d)
def keyed (d : PyData) : Prop := ∃ k, toKey d = some k
theorem ddup_spec : ∀ {ds : List PyData}, (∀ d ∈ ds, keyed d) → (∀ d, d ∈ ddup ds ↔ d ∈ ds) ∧ (ddup ds).Nodup
  | [], _ => by simp [ddup]
  | d :: r, h => by
    obtain ⟨m, nd⟩ := ddup_spec (ds := r) fun x hx => h x (List.mem_cons_of_mem _ hx)
    obtain ⟨k, hk⟩ := h d List.mem_cons_self
    have e : (ddup r).any (PyData.eqv d) = true ↔ d ∈ r := by
      rw [List.any_eq_true]
      refine ⟨fun ⟨x, hx, q⟩ => ?_, fun hd => ⟨d, (m d).mpr hd, (eqv_key hk hk).mpr rfl⟩⟩
      obtain ⟨k', hk'⟩ := h x (List.mem_cons_of_mem _ ((m x).mp hx))
      rw [(eqv_key hk hk').mp q]
      exact (m x).mp hx
    unfold ddup
    by_cases q : d ∈ r
    · rw [if_pos (e.mpr q)]
      exact ⟨fun x => by rw [m]; simp only [List.mem_cons]; exact ⟨.inr, fun z => z.elim (fun z => z ▸ q) id⟩, nd⟩
    · rw [if_neg (fun z => q (e.mp z))]
      exact ⟨fun x => by simp only [List.mem_cons, m], List.nodup_cons.mpr ⟨fun z => q ((m d).mp z), nd⟩⟩
theorem dataLe_anti {x y : PyData} (hx : keyed x) (hy : keyed y) (al : PySem.W.alike x y = true) (h1 : PySem.W.dataLe false (fun d => d) x y = true) (h2 : PySem.W.dataLe false (fun d => d) y x = true) : x = y := by
  have e : PySem.W.keyToks x = PySem.W.keyToks y := (PyProof.Rows.listOrd PyProof.Rows.itemOrd).total _ _ (by simpa [PySem.W.dataLe, PySem.W.sortLe] using h2) (by simpa [PySem.W.dataLe, PySem.W.sortLe] using h1)
  obtain ⟨a, ha⟩ := hx
  obtain ⟨b, hb⟩ := hy
  rw [← eqv_key ha hb]
  cases q : PyData.eqv x y with
  | true => rfl
  | false =>
    have := (PySem.W.toks_eqv x y al).2 q [] [.inl 0]
    rw [e, PySem.W.lex_pre, lex_irrefl] at this
    exact absurd this (by simp [PyProof.Rows.lexLt])
theorem dsort_sorted (ds : List PyData) : (dsort ds).Pairwise fun a b => PySem.W.dataLe false (fun d => d) a b = true := PySem.W.sort_pairwise (PySem.W.sortLe_total _ _ _) ds
theorem dsort_perm (ds : List PyData) : (dsort ds).Perm ds := List.mergeSort_perm _ _
theorem dsort_eq {ds es : List PyData} (hp : ds.Perm es) (hk : ∀ d ∈ ds, keyed d) (al : PySem.W.AllAlike ds) : dsort ds = dsort es :=
  List.Perm.eq_of_pairwise (fun a b ha hb => dataLe_anti (hk a ((dsort_perm ds).mem_iff.mp ha)) (hk b (hp.mem_iff.mpr ((dsort_perm es).mem_iff.mp hb))) (al a ((dsort_perm ds).mem_iff.mp ha) b (hp.mem_iff.mpr ((dsort_perm es).mem_iff.mp hb)))) (dsort_sorted ds) (dsort_sorted es) (((dsort_perm ds).trans hp).trans (dsort_perm es).symm)
def rowD (d : PyData) : Bool := match d with
  | .tuple (_ :: _) => (toKey d).isSome && decide (d.depth ≤ 7)
  | _ => false
def alikeL : List PyData → Bool
  | [] => true
  | d :: r => PySem.W.alike d d && r.all (fun e => PySem.W.alike d e && PySem.W.alike e d) && alikeL r
theorem alikeL_all : ∀ {ds : List PyData}, alikeL ds = true → PySem.W.AllAlike ds
  | [], _, d, hd, _, _ => by cases hd
  | x :: r, h, d, hd, e, he => by
    simp only [alikeL, Bool.and_eq_true, List.all_eq_true] at h
    obtain ⟨⟨h1, h2⟩, h3⟩ := h
    rcases List.mem_cons.mp hd with e1 | m1 <;> rcases List.mem_cons.mp he with e2 | m2
    · rw [e1, e2]
      exact h1
    · rw [e1]
      exact (h2 e m2).1
    · rw [e2]
      exact (h2 d m1).2
    · exact alikeL_all h3 d m1 e m2
theorem alikeL_of : ∀ {ds : List PyData}, PySem.W.AllAlike ds → alikeL ds = true
  | [], _ => rfl
  | x :: r, h => by
    simp only [alikeL, Bool.and_eq_true, List.all_eq_true]
    exact ⟨⟨h x List.mem_cons_self x List.mem_cons_self, fun e he => ⟨h x List.mem_cons_self e (List.mem_cons_of_mem _ he), h e (List.mem_cons_of_mem _ he) x List.mem_cons_self⟩⟩, alikeL_of fun d hd e he => h d (List.mem_cons_of_mem _ hd) e (List.mem_cons_of_mem _ he)⟩
def setOk (ds : List PyData) : Bool := ds.all rowD && decide (ds.length < 64)
def sortOk (ds : List PyData) : Bool := alikeL ds && decide (ds.length ≤ sizeLine) && ds.all (fun d => decide (d.depth ≤ 150)) && (ds.all (fun d => match d with | .tuple (_ :: _) => true | _ => false) || ds.all (fun d => match d with | .tuple _ => false | .none => false | _ => true))
theorem sortOk_spec {ds : List PyData} (h : sortOk ds = true) : PySem.W.AllAlike ds ∧ ds.length ≤ sizeLine ∧ (∀ d ∈ ds, d.depth ≤ 150) ∧ PySem.W.Sortable ds := by
  simp only [sortOk, Bool.and_eq_true, Bool.or_eq_true, decide_eq_true_eq, List.all_eq_true] at h
  obtain ⟨⟨⟨h1, h2⟩, h3⟩, h4⟩ := h
  refine ⟨alikeL_all h1, h2, h3, h4.imp (fun h d hd => ?_) fun h d hd => ?_⟩
  · have := h d hd
    split at this
    · exact ⟨_, _, rfl⟩
    · cases this
  · have := h d hd
    split at this
    · cases this
    · cases this
    · rename_i n1 n2
      exact ⟨fun e => n2 e, fun xs e => n1 xs e⟩
end PD
namespace PD
open PySem PySem.Spec PyProof.Rows L2
theorem bt_set : bootBuiltins "set" = some (.type "set") := by decide +kernel
theorem bt_sorted : bootBuiltins "sorted" = some (.builtin "sorted") := by decide +kernel
section
variable {X : Cx} {pins : List (Addr × Obj)} {σ : L2.St} {H : Hp} {s : Shared} {F : Addr → Prop}
theorem zip_rows (I : Inv X pins σ H s) : ∀ {ds : List PyData} {vs : List V} {its : List Value}, RpAll (.of X) F H ds vs → Vals vs its →
    ∃ zs : List (V × PyData), zs.map (·.1) = vs ∧ zs.map (·.2) = ds ∧ PySem.W.EachIs (fun v (b : V × PyData) => RelV b.1 v) its zs ∧ PySem.W.EachIs (fun v (b : V × PyData) => ∃ as, Reads s.heap v b.2 as) its zs ∧ ∀ z ∈ zs, Rp (.of X) F H z.2 z.1
  | _, _, _, .nil, .nil => ⟨[], rfl, rfl, .nil, .nil, fun _ h => by cases h⟩
  | _, _, _, .cons (d := d) (v := v) r t, .cons q u => by
    obtain ⟨zs, e1, e2, e3, e4, e5⟩ := zip_rows I t u
    refine ⟨(v, d) :: zs, by rw [List.map_cons, e1], by rw [List.map_cons, e2], .cons q e3, .cons (r.reads I q) e4, fun z hz => ?_⟩
    rcases List.mem_cons.mp hz with rfl | hz
    · exact r
    · exact e5 z hz
theorem each_vals : ∀ {out : List Value} {zs : List (V × PyData)}, PySem.W.EachIs (fun v (b : V × PyData) => RelV b.1 v) out zs → Vals (zs.map (·.1)) out
  | _, _, .nil => .nil
  | _, _, .cons e t => .cons e (each_vals t)
theorem rows_rp {M : Mo} : ∀ {zs : List (V × PyData)}, (∀ z ∈ zs, Rp M F H z.2 z.1) → RpAll M F H (zs.map (·.2)) (zs.map (·.1))
  | [], _ => .nil
  | z :: zs, h => .cons (h z List.mem_cons_self) (rows_rp fun y hy => h y (List.mem_cons_of_mem _ hy))
end
def sortR (X : Cx) : List V → Hp → VK → Prop := fun xs H Q => ∃ F l vs ds, xs = [.ref l] ∧ SqL X.K H l vs ∧ RpAll (.of X) F H ds vs ∧ sortOk ds = true ∧ ∀ p us, RpAll (.of X) F H (dsort ds) us → H p = none → Q (.ref p) (upd H p (.lst us))
theorem call_sort {X : Cx} (hu : X.A.units + 200 < cLine) : CallR X (.builtin "sorted") (sortR X) := by
  intro pins s σ H xs us Q I r h
  obtain ⟨F, l, vs, ds, rfl, hq, hr, ok, q⟩ := h
  obtain ⟨al, hl, dp, so⟩ := sortOk_spec ok
  rw [Vals.ref1 r]
  obtain ⟨its, rv, pl, hz⟩ := I.list hq
  obtain ⟨zs, e1, e2, e3, e4, e5⟩ := zip_rows I hr rv
  have hzl : zs.length = ds.length := by rw [← e2, List.length_map]
  refine PySem.W.sorted_data (bs := zs) (enc := fun b => b.2) (R := fun v (b : V × PyData) => RelV b.1 v) pl.isList e3 e4 (by rw [e2]; exact al) (by rw [e2]; exact so) (by rw [hzl]; exact hl) (fun b hb => ?_) fun out hlen each => ?_
  · have := dp b.2 (by rw [← e2]; exact List.mem_map.mpr ⟨b, hb, rfl⟩)
    omega
  · have hn : H (s.heap.objs.size + 1) = none := I.hok.fresh (Nat.le_succ _)
    have rv' := each_vals each
    have e6 : (zs.mergeSort (PySem.W.dataLe false fun b => b.2)).map (·.2) = dsort ds := by
      rw [← e2]
      exact PySem.W.sort_maps (fun b : V × PyData => b.2) fun a _ b _ => rfl
    have hr' : RpAll (.of X) F H (dsort ds) ((zs.mergeSort (PySem.W.dataLe false fun b => b.2)).map (·.1)) := by
      rw [← e6]
      exact rows_rp fun z hz => e5 z ((List.mergeSort_perm _ _).mem_iff.mp hz)
    generalize (zs.mergeSort (PySem.W.dataLe false fun b => b.2)).map (·.1) = us' at rv' hr'
    obtain ⟨c, hc⟩ := sortedAll_at s.heap its (List.toArray out)
    have hul : us'.length ≤ sizeLine := by rw [rv'.length, hlen, hzl]; exact hl
    have k : ∀ b o, s.heap.get? b = some o → (sortedAll s.heap its (List.toArray out)).get? b = some o := fun b o e => sortedAll_old e
    have J : Inv X pins σ (upd H (s.heap.objs.size + 1) (.lst us')) { s with heap := sortedAll s.heap its (List.toArray out), gens := s.gens, drawn := s.drawn, toks := s.toks } :=
      I.call (ch := []) (Un.laid k (Nat.le_succ _) hn) (I.hok.laid k (Nat.le_succ _) ⟨hul, out, c, rv', hc⟩) I.bare (fun _ z => nomatch z)
    exact ⟨.ref (s.heap.objs.size + 1), _, J, rfl, q _ us' hr' hn⟩
def sortV : List SV → Store → Rs SV
  | [.d (.list ds)], S => if sortOk ds = true then .ok (.d (.list (dsort ds))) S else .bad
  | _, _ => .bad
section
variable {X : Cx} {W : WX} {O : Own} {pos : Pos}
theorem cn_sort {k : Nat} {e : Expr} {m : EM} {q : Pos} (hr : Room k X.A) (hm : X.mg "sorted" = none) (he : CV X W O e m) (hg : Gl X "sorted" := by rfl) (hs : starEach [e] X.env = (false, eval e X.env) :: starEach [] X.env := by rfl) : CN X W O (.Call (.Name "sorted" q) [e] [] pos) (eA1 sortV m) :=
  peI (pe_callB (call_sort (by have := hr.un; omega)) hg hm bt_sorted (cav_cons he cav_nil hs) (by decide) (by decide) hs (by rfl)) fun σ H Q ⟨fr, S, G, R, h⟩ => ⟨fr, S, G, R, h.split fun xs S1 us H1 G1 R1 st1 rs h1 => by
    unfold sortV at h1
    split at h1
    · obtain ⟨u, rfl, ru⟩ := rs.one
      obtain ⟨_, _, rfl, q1, r1⟩ := ru.lst
      split at h1
      · rename_i ok
        exact ⟨_, _, _, _, rfl, SqL.of q1, r1, ok, fun p us r hp => tmp_fin R1 st1 hp r ⟨h1.good, h1.ok, h1.exc⟩⟩
      · exact h1.not_bad.elim
    · exact h1.not_bad.elim⟩
end
def setO (w : World) (a : Addr) (L : List KRow) : HO := .ext fun h => ∃ (es : Array (Int × Value)) (ep : Nat) (t : SetTable), (∃ o, h.get? a = some o ∧ o.ExactSet ∧ o.data = .set es ep t) ∧ es.toList = rowsK w L ∧ TabOk t (hashesK w L) ∧ (L.map (·.2)).Nodup ∧
  (w.params.followText "set-order" = true ∨ t.led = true) ∧ L.length * 5 < t.mask * 3 ∧ L.length < 64
def RowsAt (M : Mo) (F : Addr → Prop) (H : Hp) (L : List KRow) : Prop := ∀ p ∈ L, Rp M F H p.2.data (.ref p.1) ∧ toKey p.2.data = some p.2 ∧ p.2.depth ≤ 8
theorem key_depth : ∀ {d : PyData} {k : NestedKey}, toKey d = some k → k.depth = d.depth := by
  have both : (∀ k : NestedKey, k.depth = k.data.depth) := by
    intro k
    induction k using NestedKey.rec (motive_2 := fun ks => NestedKey.depthAll ks = PyData.depthAll (NestedKey.datas ks)) with
    | none => simp [NestedKey.depth, NestedKey.data, PyData.depth]
    | num i => simp [NestedKey.depth, NestedKey.data, PyData.depth]
    | text x => simp [NestedKey.depth, NestedKey.data, PyData.depth]
    | tup ks ih => simp [NestedKey.depth, NestedKey.data, PyData.depth, ih]
    | nil => simp [NestedKey.depthAll, NestedKey.datas, PyData.depthAll]
    | cons k ks ih1 ih2 => simp [NestedKey.depthAll, NestedKey.datas, PyData.depthAll, ih1, ih2]
  intro d k h
  rw [both, key_data h]
theorem rows_of {M : Mo} {F : Addr → Prop} {H : Hp} : ∀ {ds : List PyData} {vs : List V}, RpAll M F H ds vs → ds.all rowD = true → ∃ ks : List KRow, vs = ks.map (fun p => V.ref p.1) ∧ ds = ks.map (fun p => p.2.data) ∧ RowsAt M F H ks
  | _, _, .nil, _ => ⟨[], rfl, rfl, fun _ h => by cases h⟩
  | _, _, .cons (d := d) r t, h => by
    simp only [List.all_cons, Bool.and_eq_true] at h
    obtain ⟨ks, rfl, rfl, e⟩ := rows_of t h.2
    have hd := h.1
    unfold rowD at hd
    split at hd
    · simp only [Bool.and_eq_true, decide_eq_true_eq] at hd
      obtain ⟨k, hk⟩ := Option.isSome_iff_exists.mp hd.1
      cases r with
      | @tup a xs _ h1 h2 =>
        refine ⟨(a, k) :: ks, rfl, ?_, fun p hp => ?_⟩
        · rw [List.map_cons, key_data hk]
        · rcases List.mem_cons.mp hp with rfl | hp
          · show Rp M F H k.data (.ref a) ∧ toKey k.data = some k ∧ k.depth ≤ 8
            rw [key_data hk, key_depth hk]
            exact ⟨.tup h1 h2, hk, by omega⟩
          · exact e p hp
    · cases hd
def rSetN (X : Cx) : List V → Hp → VK → Prop := fun xs H Q => ∃ F l ks, xs = [.ref l] ∧ SqL X.K H l (ks.map fun p : KRow => V.ref p.1) ∧ RowsAt (.of X) F H ks ∧ ks.length < 64 ∧
  ∀ a L, H a = none → (∀ p ∈ L, p ∈ ks) → (∀ p ∈ ks, p.2 ∈ L.map (·.2)) → (L.map (·.2)).Nodup → L.length < 64 → Q (.ref a) (upd H a (setO X.w a L))
theorem RowsAt.keys {X : Cx} {pins : List (Addr × Obj)} {σ : L2.St} {H : Hp} {s : Shared} {F : Addr → Prop} {L : List KRow} (I : Inv X pins σ H s) (h : RowsAt (.of X) F H L) : ∀ p ∈ L, KeyOf s.heap p.2 p.1 := fun p hp => by
  obtain ⟨h1, h2, h3⟩ := h p hp
  exact ⟨h1.nkey I rfl h2, h3⟩
theorem refs_vals : ∀ {ks : List KRow} {us : List Value}, Vals (ks.map fun p => V.ref p.1) us → us = ks.map fun p => Value.ref p.1
  | [], _, .nil => rfl
  | p :: ks, _, .cons r t => by
    rw [refs_vals t, show _ = Value.ref _ from r]
    rfl
theorem vals_refs : ∀ ks : List KRow, Vals (ks.map fun p => V.ref p.1) (ks.map fun p => Value.ref p.1)
  | [] => .nil
  | p :: ks => .cons rfl (vals_refs ks)
theorem call_setN {X : Cx} (hc : X.calm = true) (hu : X.A.units + 200 < cLine) : CallR X (.type "set") (rSetN X) := by
  intro pins s σ H xs us Q I r h
  obtain ⟨F, l, ks, rfl, hl, hk, hf, q⟩ := h
  rw [Vals.ref1 r]
  obtain ⟨its, rv, pl, hz⟩ := I.list hl
  have hn : H s.heap.objs.size = none := I.hok.fresh (Nat.le_refl _)
  refine set_call (P := X.prog) (w := X.w) ks (I.ok.hd hc) pl.isList (by simpa using refs_vals rv) (hk.keys I) hf (by omega) fun h' tk L es ep t R g k => ?_
  refine ⟨.ref s.heap.objs.size, upd H s.heap.objs.size (setO X.w s.heap.objs.size L), I.laid (t' := tk) k (Nat.le_refl _) ?_, rfl, q _ L hn (fun p hp => List.mem_of_mem_take (g.sub p hp)) (fun p hp => g.all p (by rw [List.take_length]; exact hp)) R.nd R.few⟩
  refine ⟨⟨es, ep, t, R.ob, R.rows, R.tab, R.nd, R.led, R.room, R.few⟩, R.ob.imp fun _ h => h.1, fun h1 h2 p k => ?_⟩
  obtain ⟨es', ep', t', ⟨o', ho', r'⟩, q'⟩ := p
  exact ⟨es', ep', t', ⟨o', k o' ho', r'⟩, q'⟩
theorem setO_full {X : Cx} {pins : List (Addr × Obj)} {σ : L2.St} {H : Hp} {s : Shared} {F : Addr → Prop} {L : List KRow} {a : Addr} (I : Inv X pins σ H s) (ha : H a = some (setO X.w a L)) (h : RowsAt (.of X) F H L) : ∃ es ep t, SetK8 X.w s.heap a L es ep t := by
  obtain ⟨es, ep, t, h1, h2, h3, h4, h5, h6, h7⟩ := (I.hok a _ ha).1
  exact ⟨es, ep, t, h1, h2, h3, h4, h.keys I, h5, h6, h7⟩
def rSortN (X : Cx) : List V → Hp → VK → Prop := fun xs H Q => ∃ F a L, xs = [.ref a] ∧ H a = some (setO X.w a L) ∧ RowsAt (.of X) F H L ∧ sortOk (L.map fun p => p.2.data) = true ∧
  ∀ (p : Addr) (L' : List KRow), L'.Perm L → H p = none → Q (.ref p) (upd H p (.lst ((L'.mergeSort (PySem.W.dataLe false fun p : KRow => p.2.data)).map fun p => V.ref p.1)))
theorem call_sortN {X : Cx} (hc : X.calm = true) (hu : X.A.units + 200 < cLine) : CallR X (.builtin "sorted") (rSortN X) := by
  intro pins s σ H xs us Q I r h
  obtain ⟨F, a, L, rfl, ha, hk, ok, q⟩ := h
  obtain ⟨al, hl, dp, so⟩ := sortOk_spec ok
  rw [Vals.ref1 r]
  obtain ⟨es, ep, t, R⟩ := setO_full I ha hk
  refine sorted_call R (I.ok.hd hc) (fun p hp => (hk p hp).1.reads I rfl) al so (fun p hp => ?_) fun s' p out c L' k g o hp hg pm hout => ?_
  · have := dp _ (List.mem_map.mpr ⟨p, hp, rfl⟩)
    omega
  · have hn : H p = none := I.hok.fresh hp
    have hlen : ((L'.mergeSort (PySem.W.dataLe false fun p : KRow => p.2.data)).map fun q => V.ref q.1).length ≤ sizeLine := by
      rw [List.length_map, List.length_mergeSort, pm.length_eq, sizeLine_eq]
      have := R.few
      omega
    have hv : Vals ((L'.mergeSort (PySem.W.dataLe false fun p : KRow => p.2.data)).map fun q => V.ref q.1) out.toList := by
      rw [hout]
      exact vals_refs _
    exact ⟨.ref p, upd H p (.lst ((L'.mergeSort (PySem.W.dataLe false fun p : KRow => p.2.data)).map fun q => V.ref q.1)), I.call' (ch := []) o (Un.laid k hp hn) (I.hok.laid k hp ⟨hlen, out.toList, c, hv, hg⟩) (by rw [g]; exact I.bare) (fun _ z => nomatch z), rfl, q p L' pm hn⟩
def sortSetV : SV → Store → Rs SV
  | .d (.list ds), S => if (setOk ds && sortOk (ddup ds)) = true then .ok (.d (.list (dsort (ddup ds)))) S else .bad
  | _, _ => .bad
theorem rows_nodup {L : List KRow} (h : (L.map (·.2)).Nodup) (k : ∀ p ∈ L, toKey p.2.data = some p.2) : (L.map fun p => p.2.data).Nodup := by
  rw [List.Nodup, List.pairwise_map] at h ⊢
  refine List.Pairwise.imp_of_mem (fun {a b} ha hb ne e => ne ?_) h
  have h1 := k a ha
  rw [e, k b hb] at h1
  exact (Option.some.inj h1).symm
theorem rows_perm {ks L : List KRow} (h : (∀ p ∈ L, p ∈ ks)) (k : ∀ p ∈ ks, p.2 ∈ L.map (·.2)) (nd : (L.map (·.2)).Nodup) (tk : ∀ p ∈ ks, toKey p.2.data = some p.2) : (L.map fun p => p.2.data).Perm (ddup (ks.map fun p => p.2.data)) := by
  obtain ⟨m, nd2⟩ := ddup_spec (ds := ks.map fun p => p.2.data) fun d hd => by
    obtain ⟨p, hp, rfl⟩ := List.mem_map.mp hd
    exact ⟨_, tk p hp⟩
  refine (List.perm_ext_iff_of_nodup (rows_nodup nd fun p hp => tk p (h p hp)) nd2).mpr fun d => ?_
  rw [m, List.mem_map, List.mem_map]
  constructor
  · rintro ⟨p, hp, rfl⟩
    exact ⟨p, h p hp, rfl⟩
  · rintro ⟨p, hp, rfl⟩
    obtain ⟨q, hq, e⟩ := List.mem_map.mp (k p hp)
    exact ⟨q, hq, by rw [e]⟩
section
variable {X : Cx} {W : WX} {O : Own} {pos : Pos} {M : Mo}
def tSt (M : Mo) (W : WX) (O : Own) (m : EM) : TA := fun σ H Q => ∃ fr S G, Rel M O σ H fr S G ∧ Pst M W O σ H fr G (m fr S) (fun G' H' v us => ∃ a L ds, us = [V.ref a] ∧ v = .d (.list ds) ∧ H' a = some (setO M.w a L) ∧ RowsAt M G'.F H' L ∧ (L.map fun p => p.2.data).Perm ds ∧ L.length < 64) Q
def setV : SV → Store → Rs SV
  | .d (.list ds), S => if setOk ds = true then .ok (.d (.list (ddup ds))) S else .bad
  | _, _ => .bad
theorem pa_set {k : Nat} {e : Expr} {m : EM} {q : Pos} (hc : X.calm = true) (hr : Room k X.A) (hm : X.mg "set" = none) (he : CV X W O e m) (hg : Gl X "set" := by rfl) (hs : starEach [e] X.env = (false, eval e X.env) :: starEach [] X.env := by rfl)
    (hs2 : starEach [Expr.Call (.Name "set" q) [e] [] pos] X.env = (false, eval (Expr.Call (.Name "set" q) [e] [] pos) X.env) :: starEach [] X.env := by rfl) : PA X [.Call (.Name "set" q) [e] [] pos] (tSt (.of X) W O (e1 setV m)) :=
  paI (pa_cons (pe_callTy (call_setN hc (by have := hr.un; omega)) hg hm bt_set (cav_cons he cav_nil hs) (by decide) (by decide) hs (by rfl)) pa_nil hs2) fun σ H Q ⟨fr, S, G, R, h⟩ => ⟨fr, S, G, R, Pst.split (f := fun xs S1 => match xs with | [x] => setV x S1 | _ => .bad) (r := aC m aN fr S) ⟨fun z => h.good (by
      revert z
      unfold e1 aC aN
      cases m fr S <;> simp [Rs.bind]), fun z S' e => h.ok z S' (by
      revert e
      unfold e1 aC aN
      cases m fr S <;> simp [Rs.bind]), fun x S' e => h.exc x S' (by
      revert e
      unfold e1 aC aN
      cases m fr S <;> simp [Rs.bind])⟩ fun xs S1 us H1 G1 R1 st1 rs h1 => by
    split at h1
    · obtain ⟨u, rfl, ru⟩ := rs.one
      unfold setV at h1
      split at h1
      · obtain ⟨_, _, rfl, q1, r1⟩ := ru.lst
        split at h1
        · rename_i ok
          simp only [setOk, Bool.and_eq_true, decide_eq_true_eq] at ok
          obtain ⟨ks, rfl, rfl, hk⟩ := rows_of r1 ok.1
          rw [List.length_map] at ok
          refine ⟨_, _, ks, rfl, SqL.of q1, hk, ok.2, fun a L ha hs hk2 nd few => ?_⟩
          obtain ⟨B, st⟩ := R1.base.newT (o := setO X.w a L) ha
          exact h1.ok _ _ rfl _ _ G1 (R1.step st B) st ⟨a, L, _, rfl, rfl, upd_same, fun p hp => ⟨(hk p (hs p hp)).1.keep (R1.base.keeps st), (hk p (hs p hp)).2⟩, rows_perm hs hk2 nd fun p hp => (hk p hp).2.1, few⟩
        · exact h1.not_bad.elim
      · exact h1.not_bad.elim
    · exact h1.not_bad.elim⟩
theorem cn_sortset {k : Nat} {e : Expr} {m : EM} {q q2 p2 : Pos} (hc : X.calm = true) (hr : Room k X.A) (hm : X.mg "sorted" = none) (hm2 : X.mg "set" = none) (he : CV X W O e m) (hg : Gl X "sorted" := by rfl) (hg2 : Gl X "set" := by rfl) (hs : starEach [e] X.env = (false, eval e X.env) :: starEach [] X.env := by rfl)
    (hs2 : starEach [Expr.Call (.Name "set" q2) [e] [] p2] X.env = (false, eval (Expr.Call (.Name "set" q2) [e] [] p2) X.env) :: starEach [] X.env := by rfl) : CN X W O (.Call (.Name "sorted" q) [.Call (.Name "set" q2) [e] [] p2] [] pos) (e1 sortSetV m) :=
  peI (pe_callB (call_sortN hc (by have := hr.un; omega)) hg hm bt_sorted (pa_set hc hr hm2 he hg2 hs hs2) (by decide) (by decide) hs2 (by rfl)) fun σ H Q ⟨fr, S, G, R, h⟩ => ⟨fr, S, G, R, by
    have h2 : Pst (.of X) W O σ H fr G ((e1 setV m fr S).bind fun v S1 => match v with | .d (.list ds) => if sortOk ds = true then .ok (.d (.list (dsort ds))) S1 else .bad | _ => .bad) (fun G' H' v u => ∃ a, u = V.ref a ∧ Tmp (.of X) H a v G' H') Q := by
      have e0 : ((e1 setV m fr S).bind fun v S1 => match v with | .d (.list ds) => if sortOk ds = true then Rs.ok (.d (.list (dsort ds))) S1 else .bad | _ => .bad) = e1 sortSetV m fr S := by
        unfold e1
        cases m fr S with
        | ok v S1 =>
          show ((setV v S1).bind _) = sortSetV v S1
          cases v with
          | d x =>
            cases x with
            | list ds =>
              show ((if setOk ds = true then Rs.ok (SV.d (.list (ddup ds))) S1 else .bad).bind _) = if (setOk ds && sortOk (ddup ds)) = true then Rs.ok (SV.d (.list (dsort (ddup ds)))) S1 else .bad
              by_cases h1 : setOk ds = true
              · rw [if_pos h1, h1]
                simp [Rs.bind]
              · rw [if_neg h1, if_neg (by simp [h1])]
                rfl
            | _ => rfl
          | _ => rfl
        | exc x S1 => rfl
        | bad => rfl
      rw [e0]
      exact h
    refine h2.split fun v S1 us H1 G1 R1 st1 ⟨a, L, ds, e1, e2, e3, e4, e5, e6⟩ h3 => ?_
    subst e1 e2
    dsimp only at h3
    split at h3
    · rename_i ok
      have al := (sortOk_spec ok).1
      have kd : ∀ d ∈ ds, keyed d := fun d hd => by
        obtain ⟨p, hp, rfl⟩ := List.mem_map.mp (e5.mem_iff.mpr hd)
        exact ⟨_, (e4 p hp).2.1⟩
      have ok2 : sortOk (L.map fun p => p.2.data) = true := by
        simp only [sortOk, Bool.and_eq_true, Bool.or_eq_true, decide_eq_true_eq, List.all_eq_true] at ok ⊢
        obtain ⟨⟨⟨_, h2⟩, h3⟩, h4⟩ := ok
        refine ⟨⟨⟨alikeL_of fun d hd d' hd' => al d (e5.mem_iff.mp hd) d' (e5.mem_iff.mp hd'), by rw [e5.length_eq]; exact h2⟩, fun d hd => h3 d (e5.mem_iff.mp hd)⟩, h4.imp (fun h d hd => h d (e5.mem_iff.mp hd)) fun h d hd => h d (e5.mem_iff.mp hd)⟩
      refine ⟨_, a, L, rfl, e3, e4, ok2, fun p L' pm hp => ?_⟩
      have e7 : (L'.mergeSort (PySem.W.dataLe false fun p : KRow => p.2.data)).map (fun p => p.2.data) = dsort ds := by
        have : (L'.mergeSort (PySem.W.dataLe false fun p : KRow => p.2.data)).map (fun p => p.2.data) = dsort (L'.map fun p => p.2.data) := PySem.W.sort_maps (fun p : KRow => p.2.data) fun a _ b _ => rfl
        rw [this]
        have pp := (pm.map fun p => p.2.data).trans e5
        exact dsort_eq pp (fun d hd => kd d (pp.mem_iff.mp hd)) fun d hd d' hd' => al d (pp.mem_iff.mp hd) d' (pp.mem_iff.mp hd')
      have r : RpAll (.of X) G1.F H1 (dsort ds) ((L'.mergeSort (PySem.W.dataLe false fun p : KRow => p.2.data)).map fun p => V.ref p.1) := by
        rw [← e7]
        have : ∀ zs : List KRow, (∀ z ∈ zs, z ∈ L) → RpAll (.of X) G1.F H1 (zs.map fun p => p.2.data) (zs.map fun p => V.ref p.1) := fun zs => by
          induction zs with
          | nil => exact fun _ => .nil
          | cons z zs ih => exact fun hz => .cons (e4 z (hz z List.mem_cons_self)).1 (ih fun y hy => hz y (List.mem_cons_of_mem _ hy))
        exact this _ fun z hz => pm.mem_iff.mp ((List.mergeSort_perm _ _).mem_iff.mp hz)
      exact tmp_fin R1 st1 hp r ⟨h3.good, h3.ok, h3.exc⟩
    · exact h3.not_bad.elim⟩
end
end PD
namespace PD
open PySem PySem.Spec PyProof.Rows L2
section
variable {prog : Program} {w : World} {A : Around} {E : Value → Shared → Prop} {s : Shared}
theorem adjust_rev (n : Nat) : Builtin.Slice.sliceAdjust none none (-1) (n : Int) = ((n : Int) - 1, -1) := by
  simp [Builtin.Slice.sliceAdjust]
theorem places_rev (n : Nat) : Builtin.Slice.slicePlaces ((n : Int) - 1) (-1) (-1) = n := by
  unfold Builtin.Slice.slicePlaces
  simp only [show ¬ ((-1 : Int) > 0) by omega, if_false]
  split
  · simp
  · omega
theorem pick_rev (xs : Array Value) : ((List.range xs.size).filterMap fun (k : Nat) => xs[(((xs.size : Int) - 1) + (k : Int) * (-1)).toNat]?) = xs.toList.reverse := by
  have e : (List.range xs.size).filterMap (fun (k : Nat) => xs[(((xs.size : Int) - 1) + (k : Int) * (-1)).toNat]?) = ((List.range xs.size).map fun k => xs.size - 1 - k).filterMap (xs[·]?) := by
    rw [List.filterMap_map]
    have : ∀ l : List Nat, (∀ k ∈ l, k < xs.size) → l.filterMap (fun (k : Nat) => xs[(((xs.size : Int) - 1) + (k : Int) * (-1)).toNat]?) = l.filterMap ((xs[·]?) ∘ fun k => xs.size - 1 - k) := fun l => by
      induction l with
      | nil => exact fun _ => rfl
      | cons k l ih =>
        intro h
        have hk := h k List.mem_cons_self
        have e : (((xs.size : Int) - 1) + (k : Int) * (-1)).toNat = xs.size - 1 - k := by omega
        rw [List.filterMap_cons, List.filterMap_cons, ih fun j hj => h j (List.mem_cons_of_mem _ hj), e]
        rfl
    exact this _ fun k hk => List.mem_range.mp hk
  rw [e, PySem.W.krv_range, List.filterMap_reverse, PySem.W.krv_all]
theorem get_rev {t sl : Addr} {items : Array Value} {tk : Tok} {Q : Value → Shared → Prop} (ht : IsTup s.heap t items) (hs : s.heap.IsSliceOf sl .none .none (.int (-1) tk)) (hsz : items.size ≤ sizeLine)
    (h : Q (.ref s.heap.objs.size) { s with heap := s.heap.push { cls := .type "tuple", data := .seq items.toList.reverse.toArray } }) : wpAny (model prog w) A (getItem (.ref t) (.ref sl)) Q E s := by
  obtain ⟨os, hos, hcs, hds⟩ := id hs
  have hTs : s.TypeIs (.ref sl) "slice" := ⟨os, hos, hcs⟩
  have big : sizeOk (.seq items.toList.reverse.toArray) := by
    show items.toList.reverse.toArray.size ≤ sizeLine
    simpa using hsz
  unfold getItem
  try with_reducible refine wpAny_holding ?_
  first | refine wpAny_bind (wpAny_pure ?_) | skip
  refine wpAny_bind (wpAny_sequenceKey ht.typeIs (by decide) ?_)
  refine wpAny_bind (wpAny_callSpecial?_slot (name := Str.ofString "__getitem__") ht.typeIs PyProof.Rows.slot_tuple_getitem
    (wpAny_call_entry PyProof.Rows.slot_tuple_getitem ht.typeIs entry_tuple_getitem ?_ (args_tuple_getitem _ _)))
  show wpAny _ _ (Builtin.Tuple.tupleItemsOf (.ref t) >>= _) _ _ s
  refine wpAny_bind (PyProof.Rows.tupleItemsOf_ ht (wpAny_bind (wpAny_typeOf hTs ?_)))
  rw [if_pos (by decide)]
  have ap : ∀ {Q' : Int × Int × Nat → Shared → Prop}, Q' ((items.size : Int) - 1, -1, items.size) s → ∀ A : Around, wpAny (model prog w) A (Builtin.Slice.sliceApplied (.ref sl) (pure (items.size : Int))) Q' E s := fun {Q'} q A => by
    unfold Builtin.Slice.sliceApplied Builtin.Slice.sliceFields
    refine wpAny_bind (wpAny_bind (wpAny_field hos hds (x := .none) rfl (wpAny_bind (wpAny_field hos hds (x := .none) rfl (wpAny_bind (wpAny_field hos hds (x := .int (-1) tk) rfl (wpAny_pure ?_)))))))
    refine wpAny_bind (HT.slicePart_ (IsPart.int (-1) tk) ?_)
    show wpAny _ _ (if ((-1 : Int) == 0) = true then _ else _) _ _ s
    rw [if_neg (by decide)]
    refine wpAny_bind (HT.slicePart_ .none (wpAny_bind (HT.slicePart_ .none (wpAny_bind (wpAny_pure ?_)))))
    show wpAny _ _ (match Builtin.Slice.sliceAdjust none none (-1) (items.size : Int) with | (lo, hi) => pure (lo, (-1 : Int), Builtin.Slice.slicePlaces lo hi (-1))) _ _ s
    rw [adjust_rev]
    show wpAny _ _ (pure ((items.size : Int) - 1, (-1 : Int), Builtin.Slice.slicePlaces ((items.size : Int) - 1) (-1) (-1))) _ _ s
    rw [places_rev]
    exact wpAny_pure q
  refine wpAny_bind (ap ?_ _)
  show wpAny _ _ (if (((items.size : Int) - 1) == 0 && (-1 : Int) == 1 && items.size == items.size) = true then _ else _) _ _ s
  rw [if_neg (by simp), pick_rev]
  first
    | exact wpAny_bind (m := Builtin.Tuple.tupleExact _) (wpAny_newObj_type (wpAny_pure ⟨_, rfl, wpAny_pure h⟩) big)
    | exact wpAny_bind (m := Builtin.Tuple.tupleExact _) (wpAny_newObj_type (wpAny_bind (wpAny_pure (wpAny_pure ⟨_, rfl, wpAny_pure h⟩))) big)
    | exact wpAny_bind (wpAny_bind (m := Builtin.Tuple.tupleExact _) (wpAny_newObj_type (wpAny_pure (wpAny_pure ⟨_, rfl, wpAny_pure h⟩)) big))
    | exact wpAny_bind (wpAny_bind (m := Builtin.Tuple.tupleExact _) (wpAny_newObj_type (wpAny_pure ⟨_, rfl, wpAny_pure h⟩) big))
end
section
variable {X : Cx} {W : WX} {O : Own} {pos : Pos}
def tRevA (K : PySem.W.Frag) (te : TE) : TE := fun σ H Q => te σ H fun x H1 => (∃ a xs, x = .ref a ∧ SqL K H1 a xs ∧ ∀ p, H1 p = none → Q (.ref p) (upd H1 p (.lst xs.reverse))) ∨
  ∃ a xs, x = .ref a ∧ SqT K H1 a xs ∧ ∀ p, H1 p = none → Q (.ref p) (upd H1 p (.tup xs.reverse))
theorem pe_revA {e : Expr} {te : TE} {k : Nat} {p1 p2 p3 : Pos} (he : PE X e te) : PE X (.Subscript e (.Slice none none (some (.UnaryOp .USub (.Constant (.int 1) k p1) p2)) p3) pos) (tRevA X.K te) := by
  refine ⟨fun pins s σ H Q I h => ?_⟩
  refine Subscript_ (thn (he.run pins s σ H _ I h) fun v s1 ⟨x, H1, I1, r1, q1⟩ => ?_)
  have hst : PO X (some (.UnaryOp .USub (.Constant (.int 1) k p1) p2)) (tPart (tUn (rU fun i => .int (-i)) (tC (.int 1)))) := po_some (pe_un un_neg pe_int)
  refine wpAny_Slice (thn (po_none.run pins s1 σ H1 (fun o H2 => o = none ∧ H2 = H1) I1 ⟨rfl, rfl⟩) fun vl s2 ⟨l, H2, I2, pl, el, e2⟩ => ?_)
  subst el e2
  refine thn (po_none.run pins s2 σ H2 (fun o H3 => o = none ∧ H3 = H2) I2 ⟨rfl, rfl⟩) fun vu s3 ⟨u, H3, I3, pu, eu, e3⟩ => ?_
  subst eu e3
  refine thn (hst.run pins s3 σ H3 (fun o H4 => o = some (-1) ∧ H4 = H3) I3 ⟨1, rfl, -1, rfl, rfl, rfl⟩) fun vs s4 ⟨o, H4, I4, ps, eo, e4⟩ => ?_
  subst eo e4
  have I5 : Inv X pins σ H4 { s4 with heap := s4.heap.push { cls := .type "slice", data := .fields #[vl, vu, vs] } } := I4.kept (t' := s4.toks) fun b ob q => Heap.get?_push_of_some _ q
  rcases q1 with ⟨a, xs, ex, hx, q⟩ | ⟨a, xs, ex, hx, q⟩
  · subst ex
    cases r1
    obtain ⟨its, r, ht, hz⟩ := I5.list hx
    have hlen := r.length
    show wpAny (model X.prog X.w) X.A (subscriptTail e (.Slice none none (some (.UnaryOp .USub (.Constant (.int 1) k p1) p2)) p3) (.ref a) (.ref s4.heap.objs.size)) (EP X pins σ Q) X.xe { s4 with heap := s4.heap.push { cls := .type "slice", data := .fields #[vl, vu, vs] } }
    refine tail_any (ops := [.ref a, .ref s4.heap.objs.size]) ht.isList.typeIs (PySem.slot_list_getitem.lookup) ?_ (by with_unfolding_all rfl)
    refine wpAny_getItem_list_slice ht.isList (Heap.IsSliceOf.new _ vl vu vs) pl pu ps (by decide) ?_ (by rw [List.size_toArray]; omega)
    rw [PySem.W.krv_pick]
    refine ⟨.ref _, _, I5.laid (t' := s4.toks) (o := .lst xs.reverse) (fun b ob q => Heap.get?_push_of_some _ q) (Nat.le_refl _) ?_, rfl, q _ (I5.hok.fresh (Nat.le_refl _))⟩
    exact ⟨by rw [List.length_reverse]; exact hz, _, 0, r.reverse, Heap.get?_push_size _ rfl⟩
  · subst ex
    cases r1
    obtain ⟨its, r, ht, hz⟩ := I5.tuple hx
    have hlen := r.length
    cases pl
    cases pu
    cases ps with
    | int _ tk =>
      show wpAny (model X.prog X.w) X.A (subscriptTail e (.Slice none none (some (.UnaryOp .USub (.Constant (.int 1) k p1) p2)) p3) (.ref a) (.ref s4.heap.objs.size)) (EP X pins σ Q) X.xe { s4 with heap := s4.heap.push { cls := .type "slice", data := .fields #[.none, .none, .int (-1) tk] } }
      refine tail_any (ops := [.ref a, .ref s4.heap.objs.size]) ht.typeIs (PyProof.Rows.slot_tuple_getitem.lookup) ?_ (by with_unfolding_all rfl)
      refine get_rev ht (Heap.IsSliceOf.new _ .none .none (.int (-1) tk)) (by rw [List.size_toArray]; omega) ?_
      refine ⟨.ref _, _, I5.laid (t' := s4.toks) (o := .tup xs.reverse) (fun b ob q => Heap.get?_push_of_some _ q) (Nat.le_refl _) ?_, rfl, q _ (I5.hok.fresh (Nat.le_refl _))⟩
      exact ⟨by rw [List.length_reverse]; exact hz, its.toArray.toList.reverse, by simpa using r.reverse, IsTup.new _ _⟩
def revA : SV → Store → Rs SV
  | .d (.list xs), S => .ok (.d (.list xs.reverse)) S
  | .d (.tuple xs), S => .ok (.d (.tuple xs.reverse)) S
  | _, _ => .bad
theorem ce_rev {e : Expr} {m : EM} {k : Nat} {p1 p2 p3 : Pos} (he : CV X W O e m) : CE X W O (.Subscript e (.Slice none none (some (.UnaryOp .USub (.Constant (.int 1) k p1) p2)) p3) pos) (e1 revA m) :=
  peI (pe_revA he) fun σ H Q ⟨fr, S, G, R, h⟩ => ⟨fr, S, G, R, h.split fun x S1 u H1 G1 R1 st1 rx h1 => by
    unfold revA at h1
    split at h1
    · obtain ⟨_, _, rfl, q1, r1⟩ := rx.lst
      refine .inl ⟨_, _, rfl, SqL.of q1, fun p hp => ?_⟩
      obtain ⟨G2, R2, st2, q2⟩ := R1.newL hp r1.rev
      exact h1.fin R2 st2 q2
    · obtain ⟨_, _, rfl, q1, r1⟩ := rx.tup
      refine .inr ⟨_, _, rfl, q1, fun p hp => ?_⟩
      obtain ⟨R2, st2, q2⟩ := R1.newT hp r1.rev
      exact h1.fin R2 st2 q2
    · exact h1.not_bad.elim⟩
end
def ltOk (d e : PyData) : Bool := PySem.W.alike d e && decide (min d.depth e.depth ≤ 190)
def ltD : SV → SV → Store → Rs SV
  | .d (.tuple xs), .d (.tuple ys), S => if ltOk (.tuple xs) (.tuple ys) = true then .ok (.d (.bool (PySem.W.dataLt (.tuple xs) (.tuple ys)))) S else .bad
  | x, y, S => ltV x y S
def ltDR (X : Cx) : R2 := fun x y H Q => (∃ F F' xs ys, Rp (.of X) F H (.tuple xs) x ∧ Rp (.of X) F' H (.tuple ys) y ∧ ltOk (.tuple xs) (.tuple ys) = true ∧ Q (.bl (PySem.W.dataLt (.tuple xs) (.tuple ys))) H) ∨ (cmpR (fun i j => decide (i < j)) fun i j => decide (i.cps.toList < j.cps.toList)) x y H Q
theorem op_ltD {X : Cx} {k : Nat} (hr : Room k X.A) : OpR X (compareOp .Lt) (ltDR X) := by
  intro pins s σ H x y v u Q I rx ry h
  rcases h with ⟨F, F', xs, ys, hd, he, ok, q⟩ | h
  · obtain ⟨as, r1⟩ := hd.reads I rx
    obtain ⟨bs, r2⟩ := he.reads I ry
    simp only [ltOk, Bool.and_eq_true, decide_eq_true_eq] at ok
    exact PySem.W.rcLt_alike _ _ X.A s v u as bs r1 r2 ok.1 (fun z => by cases z) (room190 hr ok.2) X.prog X.w X.xe (EP X pins σ Q) ⟨.bl _, H, I, rfl, q⟩
  · exact op_ltR pins s σ H x y v u Q I rx ry h
theorem p_ltD {X : Cx} : P2 (.of X) (ltDR X) ltD := by
  intro W O σ H fr S G x y u v Q R rx ry h
  unfold ltD at h
  split at h
  · split at h
    · rename_i ok
      obtain ⟨_, rx⟩ := rx.any
      obtain ⟨_, ry⟩ := ry.any
      exact .inl ⟨_, _, _, _, rx, ry, ok, h.here R (.bl _)⟩
    · exact h.not_bad.elim
  · exact .inr (p_lt R rx ry h)
end PD
namespace PD
open PySem PySem.Spec PyProof.Rows L2
def isTup : PyData → Bool
  | .tuple _ => true
  | _ => false
def keyT (d : PyData) : Bool := isTup d && (match toKey d with
  | some k => decide (k.depth ≤ 8)
  | none => false)
def dget (ds : List (PyData × PyData)) (kd : PyData) : Option PyData := (ds.find? fun p => decide (toKey p.1 = toKey kd)).map (·.2)
def dput (ds : List (PyData × PyData)) (kd vd : PyData) : List (PyData × PyData) := if (dget ds kd).isSome = true then ds.map fun p => if toKey p.1 = toKey kd then (p.1, vd) else p else ds ++ [(kd, vd)]
def tupKeys (ds : List (PyData × PyData)) : Bool := ds.all fun p => isTup p.1
abbrev ER := NestedKey × Addr × V
def esPut (es : List ER) (k : NestedKey) (b : Addr) (v : V) : List ER := if (es.any fun e => decide (e.1 = k)) = true then es.map fun e => if e.1 = k then (e.1, e.2.1, v) else e else es ++ [(k, b, v)]
abbrev DR (M : Mo) (F : Addr → Prop) (H : Hp) : List (PyData × PyData) → List ER → Prop := Paired fun p e => (toKey p.1 = some e.1 ∧ e.1.depth ≤ 8) ∧ Rp M F H p.1 (.ref e.2.1) ∧ Rp M F H p.2 e.2.2
section
variable {M : Mo} {F F' : Addr → Prop} {H H' : Hp}
theorem DR.of : ∀ {ds : List (PyData × PyData)} {es : List ER}, KeysAre ds es → RpAll M F H (ds.map (·.1)) (es.map fun e => V.ref e.2.1) → RpAll M F H (ds.map (·.2)) (es.map (·.2.2)) → DR M F H ds es
  | _, _, .nil, _, _ => .nil
  | _, _, .cons h t, .cons r1 t1, .cons r2 t2 => .cons ⟨h, r1, r2⟩ (DR.of t t1 t2)
theorem DR.keep (k : Keeps F F' H H') {ds : List (PyData × PyData)} {es : List ER} (h : DR M F H ds es) : DR M F' H' ds es := Paired.mapP h fun _ _ ⟨a, b, c⟩ => ⟨a, Rp.keep k b, Rp.keep k c⟩
theorem DR.any {kd : PyData} {k : NestedKey} (hk : toKey kd = some k) : ∀ {ds : List (PyData × PyData)} {es : List ER}, DR M F H ds es → (dget ds kd).isSome = es.any fun e => decide (e.1 = k)
  | _, _, .nil => rfl
  | _, _, .cons (a := p) (b := e) ⟨⟨h, _⟩, _, _⟩ t => by
    have ih := DR.any hk t
    rw [List.any_cons, ← ih]
    unfold dget
    rw [List.find?_cons]
    by_cases q : e.1 = k
    · have : decide (toKey p.1 = toKey kd) = true := by rw [h, hk, q]; simp
      rw [this]
      simp [q]
    · have : decide (toKey p.1 = toKey kd) = false := by rw [h, hk]; simp [q]
      rw [this]
      simp [q]
theorem DR.repl {kd vd : PyData} {k : NestedKey} {v : V} (hk : toKey kd = some k) (rv : Rp M F H vd v) : ∀ {ds : List (PyData × PyData)} {es : List ER}, DR M F H ds es →
    DR M F H (ds.map fun p => if toKey p.1 = toKey kd then (p.1, vd) else p) (es.map fun e => if e.1 = k then (e.1, e.2.1, v) else e)
  | _, _, .nil => .nil
  | _, _, .cons (a := p) (b := e) ⟨⟨h, hd⟩, r1, r2⟩ t => by
    rw [List.map_cons, List.map_cons]
    refine .cons ?_ (DR.repl hk rv t)
    by_cases q : e.1 = k
    · rw [if_pos q, if_pos (by rw [h, hk, q])]
      exact ⟨⟨h, hd⟩, r1, rv⟩
    · rw [if_neg q, if_neg (by rw [h, hk]; simp [q])]
      exact ⟨⟨h, hd⟩, r1, r2⟩
theorem DR.put {kd vd : PyData} {k : NestedKey} {b : Addr} {v : V} {ds : List (PyData × PyData)} {es : List ER} (h : DR M F H ds es) (hk : toKey kd = some k) (dk : k.depth ≤ 8) (rk : Rp M F H kd (.ref b)) (rv : Rp M F H vd v) : DR M F H (dput ds kd vd) (esPut es k b v) := by
  unfold dput esPut
  rw [DR.any hk h]
  by_cases q : (es.any fun e => decide (e.1 = k)) = true
  · rw [if_pos q, if_pos q]; exact DR.repl hk rv h
  · rw [if_neg q, if_neg q]; exact Paired.snoc h ⟨⟨hk, dk⟩, rk, rv⟩
abbrev XR : List ER → List (NestedKey × Addr × Value) → Prop := Paired fun e x => e.1 = x.1 ∧ e.2.1 = x.2.1 ∧ RelV e.2.2 x.2.2
theorem XR.val {k : NestedKey} : ∀ {es : List ER} {xs : List (NestedKey × Addr × Value)}, XR es xs → (es.any fun e => decide (e.1 = k)) = (atKey xs k).isSome
  | _, _, .nil => rfl
  | _, _, .cons (a := e) (b := x) ⟨h, _, _⟩ t => by
    rw [List.any_cons, XR.val t]
    unfold atKey
    rw [List.find?_cons, ← h]
    by_cases q : e.1 = k
    · simp [q]
    · simp [q]
theorem XR.put {k : NestedKey} {b : Addr} {v : V} {u : Value} (rv : RelV v u) {es : List ER} {xs : List (NestedKey × Addr × Value)} (h : XR es xs) : XR (esPut es k b v) (storedH xs k b u) := by
  unfold esPut storedH
  rw [XR.val h]
  by_cases q : (atKey xs k).isSome = true
  · rw [if_pos q, if_pos q]
    clear q
    induction h with
    | nil => exact .nil
    | @cons e x es xs h t ih =>
      rw [List.map_cons, List.map_cons]
      refine .cons ?_ ih
      obtain ⟨h1, h2, h3⟩ := h
      unfold putAt
      by_cases q : e.1 = k
      · rw [if_pos q, if_pos (h1.symm.trans q)]; exact ⟨h1, h2, rv⟩
      · rw [if_neg q, if_neg (fun z => q (h1.trans z))]; exact ⟨h1, h2, h3⟩
  · rw [if_neg q, if_neg q]; exact Paired.snoc h ⟨rfl, rfl, rv⟩
theorem XR.keys {es : List ER} {xs : List (NestedKey × Addr × Value)} (h : XR es xs) : es.map (·.1) = xs.map (·.1) := by
  induction h with
  | nil => rfl
  | cons h t ih => rw [List.map_cons, List.map_cons, ih, h.1]
end
section
variable {P : Program} {w : World} {h : Heap} {a : Addr}
theorem xs_of {P : Program} : ∀ {es : List ER} {ds : List DictEntry}, Paired (fun (p : NestedKey × Addr × V) (e : DictEntry) => e.hash = p.1.hash w ∧ e.key = .ref p.2.1 ∧ RelV p.2.2 e.val) es ds →
    ∃ xs : List (NestedKey × Addr × Value), XR es xs ∧ ds = xs.map (entryOfKey (nestedKind P w))
  | _, _, .nil => ⟨[], .nil, rfl⟩
  | _, _, .cons (a := p) (b := e) ⟨h1, h2, h3⟩ t => by
    obtain ⟨xs, r, q⟩ := xs_of (P := P) t
    obtain ⟨eh, ek, ev⟩ := e
    simp only at h1 h2 h3
    subst h1 h2
    exact ⟨(p.1, p.2.1, ev) :: xs, .cons ⟨rfl, rfl, h3⟩ r, by rw [List.map_cons, q]; rfl⟩
theorem of_dictObj {es : List ER} (o : dictObj w a es h) (ky : ∀ e ∈ es, NestedIs h e.1 (.ref e.2.1) ∧ e.1.depth ≤ 8) : ∃ xs, XR es xs ∧ h.DictOfH (nestedKind P w) a xs ∧ (a == sysModules) = false := by
  obtain ⟨o, ds, ep, e, hx, hd, hp, nd, ne⟩ := o
  obtain ⟨xs, r, q⟩ := xs_of (P := P) hp
  refine ⟨xs, r, ⟨o, ds, ep, e, hx, hd, q, fun x hxm => ?_, by rw [← r.keys]; exact nd⟩, beq_eq_false_iff_ne.mpr (Ne.symm ne)⟩
  have all : ∀ {es : List ER} {xs : List (NestedKey × Addr × Value)}, XR es xs → (∀ e ∈ es, NestedIs h e.1 (.ref e.2.1) ∧ e.1.depth ≤ 8) → ∀ x ∈ xs, (nestedKind P w).is h x.1 x.2.1 := by
    intro es xs r
    induction r with
    | nil => intro _ x hx; exact nomatch hx
    | @cons e x es xs hh t ih =>
      intro ky y hy
      rcases List.mem_cons.mp hy with q | q
      · subst q
        have := ky e List.mem_cons_self
        rw [hh.1, hh.2.1] at this
        exact this
      · exact ih (fun e he => ky e (List.mem_cons_of_mem _ he)) y q
  exact all r ky x hxm
end
section
variable {X : Cx} {pins : List (Addr × Obj)} {σ : L2.St} {H : Hp} {s : Shared} {F : Addr → Prop} {a : Addr}
def DAt (X : Cx) (H : Hp) (a : Addr) (es : List ER) : Prop := H a = some (.ext (dictObj X.w a es)) ∨ (es = [] ∧ H a = some (.dK []))
theorem DAt.heap (I : Inv X pins σ H s) {ds : List (PyData × PyData)} {es : List ER} (h : DAt X H a es) (r : DR (.of X) F H ds es) : ∃ xs, XR es xs ∧ s.heap.DictOfH (nestedKind X.prog X.w) a xs ∧ (a == sysModules) = false := by
  rcases h with h | ⟨rfl, h⟩
  · obtain ⟨d, _⟩ := I.hok _ _ h
    refine of_dictObj d ?_
    have all : ∀ {ds : List (PyData × PyData)} {es : List ER}, DR (.of X) F H ds es → ∀ e ∈ es, NestedIs s.heap e.1 (.ref e.2.1) ∧ e.1.depth ≤ 8 := by
      intro ds es r
      induction r with
      | nil => intro e he; exact nomatch he
      | @cons p e ds es hh t ih =>
        intro y hy
        rcases List.mem_cons.mp hy with q | q
        · subst q
          exact ⟨Rp.nkey I hh.2.1 rfl hh.1.1, hh.1.2⟩
        · exact ih y q
    exact all r
  · obtain ⟨_, y, vs, rv, o, es, ep, e, hx, hd, ko, hp, nd⟩ := I.hok _ _ h
    cases rv
    refine ⟨[], .nil, ⟨o, es, ep, e, hx, hd, ?_, (fun x hx => by cases hx), List.nodup_nil⟩, y⟩
    have hp' : Pairs (mixKind X.prog X.w) es.toList [] := hp
    cases hq : es.toList with
    | nil => rfl
    | cons z zs => rw [hq] at hp'; cases hp'
theorem DR.get {M : Mo} {kd : PyData} {k : NestedKey} (hk : toKey kd = some k) : ∀ {ds : List (PyData × PyData)} {es : List ER} {xs : List (NestedKey × Addr × Value)}, DR M F H ds es → XR es xs → ∀ {d : PyData}, dget ds kd = some d →
    ∃ p v, atKey xs k = some p ∧ Rp M F H d v ∧ RelV v p.2
  | _, _, _, .nil, .nil, _, e => by cases e
  | _, _, _, .cons (a := p) (b := e) ⟨⟨h, _⟩, _, r2⟩ t, .cons (b := x) ⟨h1, h2, h3⟩ t', d, eq => by
    unfold dget at eq
    rw [List.find?_cons] at eq
    unfold atKey
    rw [List.find?_cons]
    by_cases q : e.1 = k
    · have z : decide (toKey p.1 = toKey kd) = true := by rw [h, hk, q]; simp
      have z2 : decide (x.1 = k) = true := by rw [← h1]; simpa using q
      rw [z] at eq
      rw [z2]
      cases eq
      exact ⟨_, _, rfl, r2, h3⟩
    · have z : decide (toKey p.1 = toKey kd) = false := by rw [h, hk]; simp [q]
      have z2 : decide (x.1 = k) = false := by rw [← h1]; simpa using q
      rw [z] at eq
      rw [z2]
      exact DR.get hk t t' eq
end
def ownD (fr : Fr) (i : Nat) : Option (List (PyData × PyData)) := match fr[i]? with
  | some (some (.d (.dict ds))) => some ds
  | _ => none
def eD (i : Nat) : EM := fun fr S => match ownD fr i with
  | some ds => .ok (.d (.dict ds)) S
  | none => .bad
def sPutD (i : Nat) (m k : EM) : SM := fun fr S => match ownD fr i with
  | some ds => (m fr S).toS fr fun y S1 => (k fr S1).toS fr fun z S2 => (match y, z with
    | .d d, .d kd => if (keyT kd && tupKeys ds && decide (ds.length ≤ sizeLine)) = true then .nx (fr.set i (some (.d (.dict (dput ds kd d))))) S2 else .bad
    | _, _ => .bad)
  | none => .bad
def gNames : List Nat → TGs
  | [] => gNil
  | i :: is => gCons (gName i) (gNames is)
theorem gNames_ok {H : Hp} {Q : L2.St → Hp → Prop} : ∀ {is : List Nat} {us : List V} {σ : L2.St}, us.length = is.length → Q (setAllV σ is us) H → gNames is us σ H Q
  | [], [], _, _, q => ⟨rfl, q⟩
  | [], _ :: _, _, h, _ => by simp at h
  | _ :: _, [], _, h, _ => by simp at h
  | i :: is, u :: us, σ, h, q => ⟨u, us, rfl, gNames_ok (is := is) (by simpa using h) q⟩
theorem RpOs.step {M : Mo} {S : Store} {G G' : Gh} {H H' H0 : Hp} {os : List Bool} {xs : List SV} {us : List V} (B : Base M H S G) (st : Stp G H G' H') (r : RpOs M G H H0 os xs us) : RpOs M G' H' H0 os xs us := by
  induction r with
  | nil => exact .nil
  | val r u _ ih => exact .val (B.rps st r) u ih
  | own t n u _ ih => exact .own (t.step B st) n u ih
section
variable {X : Cx} {W : WX} {L O : Own} {pos : Pos}
theorem cs_parT {is : List Nat} {es tg : List Expr} {os : List Bool} {m : AM} {pt pt2 : Pos} {kt k2 : Nat} (hc : X.calm = true) (ha : CAO X W O es os m) (hos : is.length = os.length) (hz : is.length ≤ sizeLine) (hg : PGs X tg (gNames is))
    (hn : (assignEach tg X.env).length = is.length := by rfl) (hst : (assignEach tg X.env).findIdx? (·.1) = none := by rfl)
    (hs : swapsWithSole [.Tuple tg kt pt] (.Tuple es k2 pt2) pos.line X.env = pure false := by rfl) (hw : swappedStores [.Tuple tg kt pt] (.Tuple es k2 pt2) X.env = pure none := by rfl)
    (h1 : (assignEach [.Tuple tg kt pt] X.env).map (·.2) = [assign (.Tuple tg kt pt) X.env] := by rfl) :
    CS X W L O (.Assign [.Tuple tg kt pt] (.Tuple es k2 pt2) pos) (sPar is O.length m) (setAllO O is os) :=
  psI (ps_asg (pe_tup ha) (pg_tup hc hg hn hst) hs hw h1) fun D σ H ⟨fr, S, G, R, h⟩ => by
    refine ⟨fr, S, G, R, h.expr R fun xs S1 us H1 G1 R1 st1 a1 rs h1 => ?_⟩
    have hl : us.length = is.length := by rw [hos, rs.len.2]
    refine ⟨by rw [hl]; exact hz, fun p hp => ?_⟩
    obtain ⟨B, stp⟩ := R1.base.newT (o := .tup us) hp
    refine ⟨p, us, rfl, .inl (.inl upd_same), hl, gNames_ok hl ?_⟩
    split at h1
    · rename_i hz
      rw [List.all_eq_true] at hz
      have hi : ∀ i ∈ is, i < σ.length ∧ i < O.length := fun i m => by
        have q := hz i m
        rw [Bool.and_eq_true, decide_eq_true_eq, decide_eq_true_eq, R.len] at q
        exact q
      have old : OldAt O σ fr H := fun j w a oj e1 e2 => R.own_there oj e1 e2
      have R2 := R1.step stp B
      refine h1.nx _ S1 rfl _ _ G1 (R2.storeAll old (rs.step R1.base stp) hos.symm.symm hi fun a _ z => ?_) (R1.base.adv stp)
      rw [st1.h0] at z
      exact fun q => z (R.base.new0 q).1
    · exact (h1.good rfl).elim
end
end PD
namespace PD
open PySem PySem.Spec PyProof.Rows L2
def comp2F (g : GM) (tt : TMt) (it1 : AM) (g1 : GM) (tt1 : TMt) (te : EM) (vs vs1 : List Nat) (fr : Fr) : List SV → Store → List PyData → Rs (List PyData)
  | [], S, acc => .ok acc S
  | x :: xs, S, acc => match g x (wipeF fr vs) with
    | none => .bad
    | some fr1 => (noX (tt fr1 S)).bind fun b S1 => if b = true then (noX (it1 fr1 S1)).bind fun ys S2 => (compF g1 tt1 te vs1 fr1 ys S2 acc).bind fun acc1 S3 => comp2F g tt it1 g1 tt1 te vs vs1 fr xs S3 acc1
      else comp2F g tt it1 g1 tt1 te vs vs1 fr xs S1 acc
def eLc2 (it : AM) (g : GM) (tt : TMt) (it1 : AM) (g1 : GM) (tt1 : TMt) (te : EM) (vs vs1 : List Nat) : EM := fun fr S => (it fr S).bind fun xs S1 => (comp2F g tt it1 g1 tt1 te vs vs1 fr xs S1 []).bind fun ds S2 => .ok (.d (.list ds)) S2
section
variable {M : Mo} {W : WX} {O O1 O2 : Own} {σ : L2.St} {H : Hp} {Q : VK} {it it1 : AM} {g g1 : GM} {tt tt1 : TMt} {te : EM} {vs vs1 ts ts1 : List Nat}
theorem Rel.onlyBase {S : Store} {G : Gh} {H : Hp} {fr : Fr} {σ : L2.St} {D : Addr} {ho : HO} (R : Rel M O1 σ H fr S G) (no : ∀ i v a, O1.has i → fr[i]? = some (some v) → σ[i]? = some (some (V.ref a)) → a ≠ D) (B : Base M (upd H D ho) S G) (k : Keeps G.F G.F H (upd H D ho)) : Rel M O1 σ (upd H D ho) fr S G :=
  ⟨B, R.len, fun i v e => by
    obtain ⟨u, h1, h2, h3⟩ := R.slot i v e
    refine ⟨u, h1, fun o => ?_, fun o => RpS.keep k ⟨[], by simp⟩ (h3 o)⟩
    obtain ⟨a, e1, nf, nr, h0, c⟩ := h2 o
    subst e1
    have ne := no i v a o e h1
    exact ⟨a, rfl, nf, nr, h0, Cont.keep k (fun o e => by rw [upd_ne ne]; exact e) c⟩, R.own⟩
theorem lc2_read (gk : ∀ x f f1, g x f = some f1 → ∀ k, k ∉ ts → f1[k]? = f[k]?) (ho : ∀ k ∈ ts, ¬ O1.has k) (hO : ∀ k, O1.has k → O.has k) (hsub : ∀ k ∈ ts, k ∈ vs) (hsub1 : ∀ k ∈ ts1, k ∈ vs1) (hv : ∀ k ∈ vs1, k ∈ vs) (h : tN M W O (eLc2 it g tt it1 g1 tt1 te vs vs1) σ H Q) :
    tLc2 (tIs M W O it) (tG M O O1 ts g) (tT M WF O1 tt) (tI M WF O1 it1) (tG M O1 O2 ts1 g1) (tT M WF O2 tt1) (tM M WF O2 te) vs vs1 σ H Q := by
  obtain ⟨fr, S, G, R, h⟩ := h
  refine ⟨fr, S, G, R, h.split fun xs S1 J H1 G1 R1 st1 J1 h1 => fun D hD => ?_⟩
  obtain ⟨B0, st0⟩ := R1.base.newT (o := .lst []) hD
  obtain ⟨_, nr0, nf0⟩ := R1.base.new0 hD
  have hgood : comp2F g tt it1 g1 tt1 te vs vs1 fr xs S1 [] ≠ .bad := fun e => h1.good (by rw [e]; rfl)
  refine ⟨fun i n H' => n = xs.length - i ∧ i ≤ xs.length ∧ ∃ S' G' acc, Rel M O σ H' fr S' G' ∧ Stp G1 H1 G' H' ∧ Tmp M H1 D (.d (.list acc)) G' H' ∧ comp2F g tt it1 g1 tt1 te vs vs1 fr xs S1 [] = comp2F g tt it1 g1 tt1 te vs vs1 fr (xs.drop i) S' acc,
    ⟨xs.length, by omega, by omega, S1, G1, [], R1.step st0 B0, st0, ⟨hD, nf0, nr0, .inl ⟨[], [], rfl, upd_same, .nil⟩⟩, by rw [List.drop_zero]⟩, ?_⟩
  rintro i n H2 ⟨rfl, hle, S2, G2, acc, R2, st2, t2, eq2⟩
  by_cases hlt : i < xs.length
  · right
    have hd : xs.drop i = xs[i] :: xs.drop (i + 1) := List.drop_eq_getElem_cons hlt
    obtain ⟨_, it2⟩ := J1 S2 G2 H2 R2.base st2
    obtain ⟨go, yld⟩ := it2 i xs[i] (List.getElem?_eq_getElem hlt)
    refine ⟨go, fun H' => xs.length - (i + 1) = xs.length - (i + 1) ∧ i + 1 ≤ xs.length ∧ ∃ S' G' acc, Rel M O σ H' fr S' G' ∧ Stp G1 H1 G' H' ∧ Tmp M H1 D (.d (.list acc)) G' H' ∧ comp2F g tt it1 g1 tt1 te vs vs1 fr xs S1 [] = comp2F g tt it1 g1 tt1 te vs vs1 fr (xs.drop (i + 1)) S' acc,
      fun H' q => ⟨_, by omega, q⟩, fun u H3 y => ?_⟩
    obtain ⟨B3, st3, r3⟩ := yld u H3 y
    have R3 : Rel M O σ H3 fr S2 G2 := R2.step st3 B3
    have t3 := t2.step R2.base st3
    have st13 := st2.trans st3
    rw [hd] at eq2
    cases q : g xs[i] (wipeF fr vs) with
    | none => exact (hgood (by rw [eq2]; simp [comp2F, q])).elim
    | some fr1 =>
      have e1 : comp2F g tt it1 g1 tt1 te vs vs1 fr (xs[i] :: xs.drop (i + 1)) S2 acc = (noX (tt fr1 S2)).bind fun b S3 => if b = true then (noX (it1 fr1 S3)).bind fun ys S4 => (compF g1 tt1 te vs1 fr1 ys S4 acc).bind fun acc1 S5 => comp2F g tt it1 g1 tt1 te vs vs1 fr (xs.drop (i + 1)) S5 acc1
        else comp2F g tt it1 g1 tt1 te vs vs1 fr (xs.drop (i + 1)) S3 acc := by simp only [comp2F, q]
      rw [e1] at eq2
      refine ⟨xs[i], wipeF fr vs, S2, G2, fr1, R3.wipe vs, r3, q, fun σ4 R4 o4 => ⟨wipe_out o4 hsub, fr1, S2, G2, R4, ?_⟩⟩
      refine Pst.ofX (fun e => hgood (by rw [eq2, e]; rfl)) fun b S5 eb b' H5 G5 R5 st5 ebb => ?_
      subst ebb
      rw [eb] at eq2
      have eq5 : comp2F g tt it1 g1 tt1 te vs vs1 fr xs S1 [] = if b = true then (noX (it1 fr1 S5)).bind fun ys S4 => (compF g1 tt1 te vs1 fr1 ys S4 acc).bind fun acc1 S6 => comp2F g tt it1 g1 tt1 te vs vs1 fr (xs.drop (i + 1)) S6 acc1
        else comp2F g tt it1 g1 tt1 te vs vs1 fr (xs.drop (i + 1)) S5 acc := eq2
      have RO5 : Rel M O σ H5 fr S5 G5 := R3.step st5 R5.base
      have t5 := t3.step R3.base st5
      have st15 := st13.trans st5
      cases b with
      | false =>
        rw [if_neg Bool.false_ne_true] at eq5 ⊢
        exact ⟨rfl, hlt, S5, G5, acc, RO5, st15, t5, eq5⟩
      | true =>
        rw [if_pos rfl] at eq5 ⊢
        refine ⟨fr1, S5, G5, R5, Pst.ofX (fun e => hgood (by rw [eq5, e]; rfl)) fun ys S6 ey J2 H6 G6 R6 st6 K1 => ?_⟩
        rw [ey] at eq5
        have eq6 : comp2F g tt it1 g1 tt1 te vs vs1 fr xs S1 [] = (compF g1 tt1 te vs1 fr1 ys S6 acc).bind fun acc1 S7 => comp2F g tt it1 g1 tt1 te vs vs1 fr (xs.drop (i + 1)) S7 acc1 := eq5
        have RO6 : Rel M O σ H6 fr S6 G6 := RO5.step st6 R6.base
        have t6 := t5.step RO5.base st6
        have st16 := st15.trans st6
        have noD : ∀ i v a, O1.has i → fr1[i]? = some (some v) → σ4[i]? = some (some (V.ref a)) → a ≠ D := fun k v a ok e1 e2 z => by
          have kt : k ∉ ts := fun m => ho k m ok
          rw [gk _ _ _ q k kt] at e1
          obtain ⟨kv, e1'⟩ := wipeF_get e1
          rw [o4.2 k kt, wipe_get σ vs k kv] at e2
          rw [z] at e2
          exact R1.own_there (hO k ok) e1' e2 hD
        have good6 : compF g1 tt1 te vs1 fr1 ys S6 acc ≠ .bad := fun e => hgood (by rw [eq6, e]; rfl)
        refine ⟨fun j k H' => k = ys.length - j ∧ j ≤ ys.length ∧ ∃ S' G' acc', Rel M O1 σ4 H' fr1 S' G' ∧ Rel M O σ H' fr S' G' ∧ Stp G1 H1 G' H' ∧ Adv G6 H6 G' H' ∧ Tmp M H1 D (.d (.list acc')) G' H' ∧ compF g1 tt1 te vs1 fr1 ys S6 acc = compF g1 tt1 te vs1 fr1 (ys.drop j) S' acc',
          ⟨ys.length, by omega, by omega, S6, G6, acc, R6, RO6, st16, Adv.refl, t6, by rw [List.drop_zero]⟩, ?_⟩
        rintro j k H7 ⟨rfl, jle, S7, G7, acc7, R7, RO7, st17, st67, t7, eq7⟩
        by_cases jlt : j < ys.length
        · right
          have hd7 : ys.drop j = ys[j] :: ys.drop (j + 1) := List.drop_eq_getElem_cons jlt
          obtain ⟨_, it7⟩ := K1 S7 G7 H7 R7.base st67
          obtain ⟨go7, yld7⟩ := it7 j ys[j] (List.getElem?_eq_getElem jlt)
          refine ⟨go7, fun H' => ys.length - (j + 1) = ys.length - (j + 1) ∧ j + 1 ≤ ys.length ∧ ∃ S' G' acc', Rel M O1 σ4 H' fr1 S' G' ∧ Rel M O σ H' fr S' G' ∧ Stp G1 H1 G' H' ∧ Adv G6 H6 G' H' ∧ Tmp M H1 D (.d (.list acc')) G' H' ∧ compF g1 tt1 te vs1 fr1 ys S6 acc = compF g1 tt1 te vs1 fr1 (ys.drop (j + 1)) S' acc',
            fun H' q => ⟨_, by omega, q⟩, fun u8 H8 y8 => ?_⟩
          obtain ⟨B8, st8, r8⟩ := yld7 u8 H8 y8
          have R8 : Rel M O1 σ4 H8 fr1 S7 G7 := R7.step st8 B8
          have RO8 : Rel M O σ H8 fr S7 G7 := RO7.step st8 B8
          have t8 := t7.step R7.base st8
          rw [hd7] at eq7
          cases q8 : g1 ys[j] (wipeF fr1 vs1) with
          | none => exact (good6 (by rw [eq7]; simp [compF, q8])).elim
          | some fr2 =>
            have e8 : compF g1 tt1 te vs1 fr1 (ys[j] :: ys.drop (j + 1)) S7 acc7 = (noX (tt1 fr2 S7)).bind fun b S3 => if b = true then (noX (te fr2 S3)).bind fun y S4 => match y with
                | .d d => if acc7.length < sizeLine then compF g1 tt1 te vs1 fr1 (ys.drop (j + 1)) S4 (acc7 ++ [d]) else .bad
                | _ => .bad
              else compF g1 tt1 te vs1 fr1 (ys.drop (j + 1)) S3 acc7 := by simp only [compF, q8] <;> rfl
            rw [e8] at eq7
            refine ⟨ys[j], wipeF fr1 vs1, S7, G7, fr2, R8.wipe vs1, r8, q8, fun σ9 R9 o9 => ⟨wipe_out o9 hsub1, fr2, S7, G7, R9, ?_⟩⟩
            refine Pst.ofX (fun e => good6 (by rw [eq7, e]; rfl)) fun b S10 eb b' H10 G10 R10 st10 ebb => ?_
            subst ebb
            rw [eb] at eq7
            have eq10 : compF g1 tt1 te vs1 fr1 ys S6 acc = if b = true then (noX (te fr2 S10)).bind fun y S4 => match y with
                | .d d => if acc7.length < sizeLine then compF g1 tt1 te vs1 fr1 (ys.drop (j + 1)) S4 (acc7 ++ [d]) else .bad
                | _ => .bad
              else compF g1 tt1 te vs1 fr1 (ys.drop (j + 1)) S10 acc7 := eq7
            have R1a : Rel M O1 σ4 H10 fr1 S10 G10 := R8.step st10 R10.base
            have R0a : Rel M O σ H10 fr S10 G10 := RO8.step st10 R10.base
            have t10 := t8.step R8.base st10
            cases b with
            | false =>
              rw [if_neg Bool.false_ne_true] at eq10 ⊢
              exact ⟨rfl, jlt, S10, G10, acc7, R1a, R0a, (st17.trans st8).trans st10, (st67.trans (R7.base.adv st8)).trans (R8.base.adv st10), t10, eq10⟩
            | true =>
              rw [if_pos rfl] at eq10 ⊢
              refine ⟨fr2, S10, G10, R10, Pst.ofX (fun e => good6 (by rw [eq10, e]; rfl)) fun y S11 ey11 w H11 G11 R11 st11 ry => ?_⟩
              rw [ey11] at eq10
              have R1b : Rel M O1 σ4 H11 fr1 S11 G11 := R1a.step st11 R11.base
              have R0b : Rel M O σ H11 fr S11 G11 := R0a.step st11 R11.base
              have t11 := t10.step R1a.base st11
              have st1b := ((st17.trans st8).trans st10).trans st11
              have st6b := ((st67.trans (R7.base.adv st8)).trans (R8.base.adv st10)).trans (R1a.base.adv st11)
              cases y with
              | obj k => exact (good6 (by rw [eq10]; rfl)).elim
              | scr k => exact (good6 (by rw [eq10]; rfl)).elim
              | d d =>
                have eq11 : compF g1 tt1 te vs1 fr1 ys S6 acc = if acc7.length < sizeLine then compF g1 tt1 te vs1 fr1 (ys.drop (j + 1)) S11 (acc7 ++ [d]) else .bad := eq10
                by_cases hz : acc7.length < sizeLine
                · rw [if_pos hz] at eq11
                  rcases t11.cont with ⟨ds, vs', e, q6, r6⟩ | ⟨_, _, e, _⟩ | ⟨_, _, e, _⟩
                  · cases e
                    obtain ⟨R7', st7', k7'⟩ := R1.tmpWrite (o := .lst (vs' ++ [w])) R0b st1b t11
                    have adv7 : Adv G11 H11 G11 (upd H11 D (.lst (vs' ++ [w]))) := ⟨rfl, rfl, rfl, k7', ⟨[], by simp⟩⟩
                    refine ⟨vs', q6, by rw [← r6.length]; exact hz, rfl, jlt, S11, G11, acc7 ++ [d], R1b.onlyBase noD R7'.base k7', R7', st7', st6b.trans adv7, ⟨hD, t11.nf, t11.nr, .inl ⟨acc7 ++ [d], vs' ++ [w], rfl, upd_same, RpAll.keep k7' (r6.append (.cons ry .nil))⟩⟩, eq11⟩
                  · cases e
                  · cases e
                · rw [if_neg hz] at eq11
                  exact (good6 eq11).elim
        · left
          have e : j = ys.length := by omega
          subst e
          rw [List.drop_length] at eq7
          have eq8 : compF g1 tt1 te vs1 fr1 ys S6 acc = .ok acc7 S7 := eq7
          rw [eq8] at eq6
          exact ⟨(K1 S7 G7 H7 R7.base st67).1, rfl, hlt, S7, G7, acc7, RO7, st17, t7, eq6⟩
  · left
    have e : i = xs.length := by omega
    subst e
    rw [List.drop_length] at eq2
    have eq3 : comp2F g tt it1 g1 tt1 te vs vs1 fr xs S1 [] = .ok acc S2 := eq2
    refine ⟨(J1 S2 G2 H2 R2.base st2).1, ?_⟩
    rw [eq3] at h1
    exact h1.ok _ S2 rfl _ H2 G2 R2 st2 ⟨D, rfl, ⟨st1.there D hD, t2.nf, t2.nr, t2.cont⟩⟩
end
theorem gk_set (i : Nat) : ∀ x f f1, gSet i x f = some f1 → ∀ k, k ∉ [i] → f1[k]? = f[k]? := fun x f f1 h k hk => by
  unfold gSet at h
  split at h
  · cases h
    exact List.getElem?_set_ne (fun e => hk (by rw [e]; simp))
  · cases h
theorem has_sub {O O1 : Own} (h : ((List.range O1.length).all fun i => !(O1[i]? == some true) || (O[i]? == some true)) = true) : ∀ k, O1.has k → O.has k := fun k o => by
  have o' : O1[k]? = some true := o
  have hl : k < O1.length := (List.getElem?_eq_some_iff.mp o').1
  have := List.all_eq_true.mp h k (List.mem_range.mpr hl)
  rw [o'] at this
  simpa [Own.has] using this
theorem has_not {O1 : Own} {ts : List Nat} (h : (ts.all fun k => !(O1[k]? == some true)) = true) : ∀ k ∈ ts, ¬ O1.has k := fun k hk o => by
  have := List.all_eq_true.mp h k hk
  have o' : O1[k]? = some true := o
  rw [o'] at this
  cases this
theorem sub_of {ts vs : List Nat} (h : (ts.all fun k => vs.contains k) = true) : ∀ k ∈ ts, k ∈ vs := fun k hk => by simpa using List.all_eq_true.mp h k hk
section
variable {X : Cx} {W : WX} {L O O1 O2 : Own}
theorem cs_lcSet2 (i : Nat) {y : Str} {py : Pos} {elt tg iter tg1 iter1 : Expr} {ifs ifs1 : List Expr} {scope : Scope} {own : List (Str × Nat)} {vs1 : List Nat} {pos spos : Pos} {it it1 : AM} {g g1 : GM} {tt tt1 : TMt} {te : EM} {ts ts1 : List Nat} (hc : X.calm = true) (hN : X.N.Nodup)
    (hsw : swapsWith (.ListComp elt [⟨tg, iter, ifs, 0⟩, ⟨tg1, iter1, ifs1, 0⟩] scope pos) (some (.Name y py)) spos.line X.env = pure true) (hi : CIs X W O tg iter it) (ok : BlkOk X.N X.env.scope scope own)
    (hg : ∀ (s : Shared) (H : Hp) (C : Addr) (cl : List (Str × Addr)) (fp : List Addr), CG (X.blk s H scope (compEnvC scope cl C X.env) fp) O tg g O1 ts)
    (ht : ∀ (s : Shared) (H : Hp) (C : Addr) (cl : List (Str × Addr)) (fp : List Addr), PTs (X.blk s H scope (compEnvC scope cl C X.env) fp) ifs (tT (.of X) WF O1 tt))
    (hi1 : ∀ (s : Shared) (H : Hp) (C : Addr) (cl : List (Str × Addr)) (fp : List Addr), CI (X.blk s H scope (compEnvC scope cl C X.env) fp) WF O1 tg1 iter1 it1)
    (hg1 : ∀ (s : Shared) (H : Hp) (C : Addr) (cl : List (Str × Addr)) (fp : List Addr), CG (X.blk s H scope (compEnvC scope cl C X.env) fp) O1 tg1 g1 O2 ts1)
    (ht1 : ∀ (s : Shared) (H : Hp) (C : Addr) (cl : List (Str × Addr)) (fp : List Addr), PTs (X.blk s H scope (compEnvC scope cl C X.env) fp) ifs1 (tT (.of X) WF O2 tt1))
    (he : ∀ (s : Shared) (H : Hp) (C : Addr) (cl : List (Str × Addr)) (fp : List Addr), CE (X.blk s H scope (compEnvC scope cl C X.env) fp) WF O2 elt te)
    (hy : X.N[i]? = some y := by rfl) (hyl : X.env.scope.names.lookup y = some .local := by rfl)
    (gk : ∀ x f f1, g x f = some f1 → ∀ k, k ∉ ts → f1[k]? = f[k]? := by exact gk_set _) (ho : (ts.all fun k => !(O1[k]? == some true)) = true := by rfl) (hO : ((List.range O1.length).all fun i => !(O1[i]? == some true) || (O[i]? == some true)) = true := by rfl) (hsub : (ts.all fun k => (own.map (·.2)).contains k) = true := by rfl) (hsub1 : (ts1.all fun k => vs1.contains k) = true := by rfl) (hv : (vs1.all fun k => (own.map (·.2)).contains k) = true := by rfl)
    (hs : ∀ x, foldedSetIterable iter X.env x = pure x := by intro _; rfl) (hs1 : ∀ env x, foldedSetIterable iter1 env x = pure x := by intro _ _; rfl) :
    CS X W L O (.Assign [.Name y py] (.ListComp elt [⟨tg, iter, ifs, 0⟩, ⟨tg1, iter1, ifs1, 0⟩] scope pos) spos) (sAsg (gSet i) (fE (eLc2 it g tt it1 g1 tt1 te (own.map (·.2)) vs1))) (O.set i false) :=
  psI (ps_setLc2 (g := tG (.of X) O O1 ts g) (tt := tT (.of X) WF O1 tt) (wi1 := tI (.of X) WF O1 it1) (g1 := tG (.of X) O1 O2 ts1 g1) (tt1 := tT (.of X) WF O2 tt1) (te := tM (.of X) WF O2 te) hc hN hy hyl hsw hi ok (sub_of hv) hg ht hi1 hg1 ht1 he hs hs1) fun D σ H h => lc2_read gk (has_not ho) (has_sub hO) (sub_of hsub) (sub_of hsub1) (sub_of hv) (tN_of_tM (set_read h))
end
end PD
namespace PD
open PySem PySem.Spec PyProof.Rows L2
section
variable {prog : Program} {w : World} {A : Around} {E : Value → Shared → Prop} {s : Shared}
def EntAt (h : Heap) (d : Addr) (es : Array DictEntry) (ep : Nat) : Prop := ∃ o, h.get? d = some o ∧ o.ExactDict ∧ o.data = .dict es ep
theorem EntAt.typeIs {d : Addr} {es : Array DictEntry} {ep : Nat} (x : EntAt s.heap d es ep) : s.TypeIs (.ref d) "dict" := let ⟨o, ho, hc, _⟩ := x; ⟨o, ho, hc.1⟩
theorem EntAt.at {h h' : Heap} {d : Addr} {es : Array DictEntry} {ep : Nat} (x : EntAt h d es ep) (e : ∀ o, h.get? d = some o → h'.get? d = some o) : EntAt h' d es ep := let ⟨o, ho, r⟩ := x; ⟨o, e _ ho, r⟩
end
end PD
namespace PD
open PySem PySem.Spec PyProof.Rows L2
end PD
namespace PD
open PySem PySem.Spec PyProof.Rows L2
@[irreducible] def Rs.sat {α : Type} (r : Rs α) (Q : α → Store → Prop) (X : Exc → Store → Prop) : Prop := match r with
  | .ok a S => Q a S
  | .exc x S => X x S
  | .bad => False
abbrev NoX : Exc → Store → Prop := fun _ _ => False
structure Po where
  nx : Fr → Store → Prop
  bk : Fr → Store → Prop
  ct : Fr → Store → Prop
  rt : SV → Store → Prop
  ex : Exc → Store → Prop
@[irreducible] def SR.sat (r : SR) (p : Po) : Prop := match r with
  | .nx fr S => p.nx fr S
  | .bk fr S => p.bk fr S
  | .ct fr S => p.ct fr S
  | .rt v S => p.rt v S
  | .exc x _ S => p.ex x S
  | .bad => False
section
variable {α β : Type} {Q Q' : α → Store → Prop} {X X' : Exc → Store → Prop} {a : α} {S : Store} {r : Rs α} {fr : Fr} {p p' : Po}
theorem sat_ok : (Rs.ok a S).sat Q X = Q a S := by unfold Rs.sat; rfl
theorem sat_exc {x : Exc} : (Rs.exc x S : Rs α).sat Q X = X x S := by unfold Rs.sat; rfl
theorem sat_bad : (Rs.bad : Rs α).sat Q X = False := by unfold Rs.sat; rfl
theorem sat_bind {f : α → Store → Rs β} {Q : β → Store → Prop} : (r.bind f).sat Q X = r.sat (fun a S => (f a S).sat Q X) X := by
  cases r with
  | ok a S =>
    rw [sat_ok]
    rfl
  | exc x S =>
    rw [sat_exc]
    show (Rs.exc x S : Rs β).sat Q X = _
    rw [sat_exc]
  | bad =>
    rw [sat_bad]
    show (Rs.bad : Rs β).sat Q X = _
    rw [sat_bad]
theorem Rs.sat.mono (h : r.sat Q X) (hq : ∀ a S, Q a S → Q' a S) (hx : ∀ x S, X x S → X' x S) : r.sat Q' X' := by
  cases r with
  | ok a S =>
    rw [sat_ok] at h ⊢
    exact hq a S h
  | exc x S =>
    rw [sat_exc] at h ⊢
    exact hx x S h
  | bad =>
    rw [sat_bad] at h
    exact h.elim
theorem Rs.sat.on (h : r.sat Q NoX) (hq : ∀ a S, Q a S → Q' a S) : r.sat Q' X := h.mono hq fun _ _ z => z.elim
theorem Rs.sat.ex (h : r.sat Q NoX) : ∃ a S, r = .ok a S ∧ Q a S := by
  cases r with
  | ok a S =>
    rw [sat_ok] at h
    exact ⟨a, S, rfl, h⟩
  | exc x S =>
    rw [sat_exc] at h
    exact h.elim
  | bad =>
    rw [sat_bad] at h
    exact h.elim
theorem sat_of (h : Q a S) : (Rs.ok a S).sat Q X := by
  rw [sat_ok]
  exact h
theorem sat_if {c : Prop} [Decidable c] {r : Rs α} : (if c then r else .bad).sat Q X = (c ∧ r.sat Q X) := by
  by_cases h : c
  · rw [if_pos h]
    simp [h]
  · rw [if_neg h, sat_bad]
    simp [h]
theorem ssat_nx : (SR.nx fr S).sat p = p.nx fr S := by unfold SR.sat; rfl
theorem ssat_bk : (SR.bk fr S).sat p = p.bk fr S := by unfold SR.sat; rfl
theorem ssat_ct : (SR.ct fr S).sat p = p.ct fr S := by unfold SR.sat; rfl
theorem ssat_rt {v : SV} : (SR.rt v S).sat p = p.rt v S := by unfold SR.sat; rfl
theorem ssat_exc {x : Exc} : (SR.exc x fr S).sat p = p.ex x S := by unfold SR.sat; rfl
theorem ssat_bad : SR.bad.sat p = False := by unfold SR.sat; rfl
theorem ssat_toS {f : α → Store → SR} : (r.toS fr f).sat p = r.sat (fun a S => (f a S).sat p) p.ex := by
  cases r with
  | ok a S =>
    rw [sat_ok]
    rfl
  | exc x S =>
    rw [sat_exc]
    show (SR.exc x fr S).sat p = _
    rw [ssat_exc]
  | bad =>
    rw [sat_bad]
    show SR.bad.sat p = _
    rw [ssat_bad]
theorem ssat_next {r : SR} {f : Fr → Store → SR} : (r.next f).sat p = r.sat { p with nx := fun fr S => (f fr S).sat p } := by
  cases r with
  | nx fr S =>
    rw [ssat_nx]
    rfl
  | bk fr S =>
    rw [ssat_bk]
    show (SR.bk fr S).sat p = _
    rw [ssat_bk]
  | ct fr S =>
    rw [ssat_ct]
    show (SR.ct fr S).sat p = _
    rw [ssat_ct]
  | rt v S =>
    rw [ssat_rt]
    show (SR.rt v S).sat p = _
    rw [ssat_rt]
  | exc x fr S =>
    rw [ssat_exc]
    show (SR.exc x fr S).sat p = _
    rw [ssat_exc]
  | bad =>
    rw [ssat_bad]
    show SR.bad.sat p = _
    rw [ssat_bad]
theorem ssat_if {c : Prop} [Decidable c] {r : SR} : (if c then r else .bad).sat p = (c ∧ r.sat p) := by
  by_cases h : c
  · rw [if_pos h]
    simp [h]
  · rw [if_neg h, ssat_bad]
    simp [h]
theorem SR.sat.mono {r : SR} (h : r.sat p) (h1 : ∀ fr S, p.nx fr S → p'.nx fr S) (h2 : ∀ fr S, p.bk fr S → p'.bk fr S) (h3 : ∀ fr S, p.ct fr S → p'.ct fr S) (h4 : ∀ v S, p.rt v S → p'.rt v S) (h5 : ∀ x S, p.ex x S → p'.ex x S) : r.sat p' := by
  cases r with
  | nx fr S =>
    rw [ssat_nx] at h ⊢
    exact h1 _ _ h
  | bk fr S =>
    rw [ssat_bk] at h ⊢
    exact h2 _ _ h
  | ct fr S =>
    rw [ssat_ct] at h ⊢
    exact h3 _ _ h
  | rt v S =>
    rw [ssat_rt] at h ⊢
    exact h4 _ _ h
  | exc x fr S =>
    rw [ssat_exc] at h ⊢
    exact h5 _ _ h
  | bad =>
    rw [ssat_bad] at h
    exact h.elim
theorem sat_ite {α : Type} {c : Prop} [Decidable c] {r r' : Rs α} {Q : α → Store → Prop} {X : Exc → Store → Prop} : (if c then r else r').sat Q X = if c then r.sat Q X else r'.sat Q X := by
  by_cases h : c
  · rw [if_pos h, if_pos h]
  · rw [if_neg h, if_neg h]
theorem ssat_ite {c : Prop} [Decidable c] {r r' : SR} {p : Po} : (if c then r else r').sat p = if c then r.sat p else r'.sat p := by
  by_cases h : c
  · rw [if_pos h, if_pos h]
  · rw [if_neg h, if_neg h]
theorem seq_sat {m n : SM} (mid : Fr → Store → Prop) (h : (m fr S).sat { p with nx := mid }) (k : ∀ fr S, mid fr S → (n fr S).sat p) : (sSeq m n fr S).sat p := by
  show ((m fr S).next fun fr1 S1 => n fr1 S1).sat p
  rw [ssat_next]
  exact h.mono k (fun _ _ h => h) (fun _ _ h => h) (fun _ _ h => h) fun _ _ h => h
abbrev no2 : Fr → Store → Prop := fun _ _ => False
abbrev retP (Q : SV → Store → Prop) (X : Exc → Store → Prop) : Po := ⟨fun _ S => Q (.d .none) S, no2, no2, Q, X⟩
theorem sat_body {N : Nat} {m : SM} {xs : List SV} {Q : SV → Store → Prop} : (bodyF N m xs S).sat Q X = (m (xs.map some ++ List.replicate (N - xs.length) none) S).sat (retP Q X) := by
  unfold bodyF
  cases m (xs.map some ++ List.replicate (N - xs.length) none) S with
  | nx fr S => rw [ssat_nx, sat_ok]
  | bk fr S => rw [ssat_bk, sat_bad]
  | ct fr S => rw [ssat_ct, sat_bad]
  | rt v S => rw [ssat_rt, sat_ok]
  | exc x fr S => rw [ssat_exc, sat_exc]
  | bad => rw [ssat_bad, sat_bad]
theorem ssat_for {g : GM} {m : SM} {p : Po} : ∀ {xs : List SV} {fr : Fr} {S : Store} (I : Nat → Fr → Store → Prop) (n : Nat), I n fr S →
    (∀ k x fr S, xs[k]? = some x → I (n + k) fr S → ∃ fr1, g x fr = some fr1 ∧ (m fr1 S).sat ⟨I (n + k + 1), p.nx, I (n + k + 1), p.rt, p.ex⟩) → (∀ fr S, I (n + xs.length) fr S → p.nx fr S) → (forF g m xs fr S).sat p
  | [], fr, S, I, n, h0, _, hf => by
    show (SR.nx fr S).sat p
    rw [ssat_nx]
    exact hf fr S h0
  | x :: xs, fr, S, I, n, h0, hs, hf => by
    obtain ⟨fr1, e, h⟩ := hs 0 x fr S rfl h0
    have go : ∀ fr2 S2, I (n + 1) fr2 S2 → (forF g m xs fr2 S2).sat p := fun fr2 S2 h2 => by
      refine ssat_for I (n + 1) h2 (fun k y fr S e h => ?_) fun fr S h => hf fr S ?_
      · rw [show n + 1 + k = n + (k + 1) by omega] at h ⊢
        exact hs (k + 1) y fr S (by simpa using e) h
      · rw [List.length_cons, show n + (xs.length + 1) = n + 1 + xs.length by omega]
        exact h
    have e1 : forF g m (x :: xs) fr S = (match m fr1 S with
        | .nx fr2 S2 => forF g m xs fr2 S2
        | .ct fr2 S2 => forF g m xs fr2 S2
        | .bk fr2 S2 => .nx fr2 S2
        | r => r) := by
      simp only [forF, e]
      all_goals rfl
    rw [e1]
    have h' : (m fr1 S).sat ⟨I (n + 1), p.nx, I (n + 1), p.rt, p.ex⟩ := h
    cases q : m fr1 S with
    | nx fr2 S2 =>
      rw [q, ssat_nx] at h'
      exact go fr2 S2 h'
    | ct fr2 S2 =>
      rw [q, ssat_ct] at h'
      exact go fr2 S2 h'
    | bk fr2 S2 =>
      rw [q, ssat_bk] at h'
      show (SR.nx fr2 S2).sat p
      rw [ssat_nx]
      exact h'
    | rt v S2 =>
      rw [q, ssat_rt] at h'
      show (SR.rt v S2).sat p
      rw [ssat_rt]
      exact h'
    | exc x fr2 S2 =>
      rw [q, ssat_exc] at h'
      show (SR.exc x fr2 S2).sat p
      rw [ssat_exc]
      exact h'
    | bad =>
      rw [q, ssat_bad] at h'
      exact h'.elim
theorem sat_comp {g : GM} {tt : TMt} {te : EM} {vs : List Nat} {fr : Fr} {Q : List PyData → Store → Prop} : ∀ {xs : List SV} {S : Store} {acc : List PyData} (I : Nat → Store → List PyData → Prop) (n : Nat), I n S acc →
    (∀ k x S acc, xs[k]? = some x → I (n + k) S acc → ∃ fr1, g x (wipeF fr vs) = some fr1 ∧ (tt fr1 S).sat (fun b S1 => if b = true then (te fr1 S1).sat (fun y S2 => ∃ d, y = .d d ∧ acc.length < sizeLine ∧ I (n + k + 1) S2 (acc ++ [d])) NoX else I (n + k + 1) S1 acc) NoX) →
    (∀ S acc, I (n + xs.length) S acc → Q acc S) → (compF g tt te vs fr xs S acc).sat Q X
  | [], S, acc, I, n, h0, _, hf => by
    show (Rs.ok acc S).sat Q X
    rw [sat_ok]
    exact hf S acc h0
  | x :: xs, S, acc, I, n, h0, hs, hf => by
    obtain ⟨fr1, e, h⟩ := hs 0 x S acc rfl h0
    have go : ∀ S2 acc2, I (n + 1) S2 acc2 → (compF g tt te vs fr xs S2 acc2).sat Q X := fun S2 acc2 h2 => by
      refine sat_comp I (n + 1) h2 (fun k y S acc e h => ?_) fun S acc h => hf S acc ?_
      · rw [show n + 1 + k = n + (k + 1) by omega] at h ⊢
        exact hs (k + 1) y S acc (by simpa using e) h
      · rw [List.length_cons, show n + (xs.length + 1) = n + 1 + xs.length by omega]
        exact h
    have e1 : compF g tt te vs fr (x :: xs) S acc = (noX (tt fr1 S)).bind fun b S3 => if b = true then (noX (te fr1 S3)).bind fun y S4 => match y with
          | .d d => if acc.length < sizeLine then compF g tt te vs fr xs S4 (acc ++ [d]) else .bad
          | _ => .bad
        else compF g tt te vs fr xs S3 acc := by
      simp only [compF, e]
      all_goals rfl
    rw [e1]
    obtain ⟨b, S1, eb, h1⟩ := h.ex
    rw [eb]
    cases b with
    | false =>
      rw [if_neg Bool.false_ne_true] at h1
      exact go S1 acc h1
    | true =>
      rw [if_pos rfl] at h1
      obtain ⟨y, S2, ey, d, rfl, hl, h2⟩ := h1.ex
      show ((noX (te fr1 S1)).bind _).sat Q X
      rw [ey]
      show (if acc.length < sizeLine then compF g tt te vs fr xs S2 (acc ++ [d]) else .bad).sat Q X
      rw [if_pos hl]
      exact go S2 _ h2
theorem comp_pure {g : GM} {te : EM} {vs : List Nat} {fr : Fr} {S : Store} {f : SV → PyData} : ∀ {xs : List SV} {acc : List PyData}, (∀ x ∈ xs, ∃ fr1, g x (wipeF fr vs) = some fr1 ∧ te fr1 S = .ok (.d (f x)) S) → acc.length + xs.length ≤ sizeLine →
    compF g bYes te vs fr xs S acc = .ok (acc ++ xs.map f) S
  | [], acc, _, _ => by simp [compF]
  | x :: xs, acc, h, hl => by
    obtain ⟨fr1, e, h1⟩ := h x List.mem_cons_self
    have hl' : acc.length < sizeLine := by
      rw [List.length_cons] at hl
      omega
    have e1 : compF g bYes te vs fr (x :: xs) S acc = compF g bYes te vs fr xs S (acc ++ [f x]) := by
      simp only [compF, e, bYes, noX, Rs.bind, h1, if_true, if_pos hl']
    rw [e1, comp_pure (fun y hy => h y (List.mem_cons_of_mem _ hy)) (by
      rw [List.length_cons] at hl
      simp
      omega)]
    simp
end
end PD
namespace PD
open PySem PySem.Spec PyProof.Rows L2
def m__law_deck_1 : SM := sRet (eA mkObj (aC (eNew (eLc (iSeq (eSl (eV 0) (oN) (oS (eC (.int 63))))) (gSet 1) (bYes) (eA1 absI (eV 1)) [1])) (aC (eC (.int 0)) (aN))))
def m__law_deck : SM := m__law_deck_1
def F__law_deck : FN := bodyF 2 m__law_deck
def m__law_draw_1 : SM := sPutO (e2 addV (e2 ixV (eV 0) (eC (.int 1))) (eC (.int 1))) (eV 0) (eC (.int 1))
def m__law_draw_2 : SM := sAsg (ggTup 2 (ggCons (gSet 2) (ggCons (gSet 3) (ggNil)))) (fE (eA mkTup (aC (eC (.int 0)) (aC (e1 negV (eC (.int 1))) (aN)))))
def m__law_draw_4 : SM := sAsg (gSet 3) (fE (e2 modV (eA1 intV (e2 ixV (eV 0) (eC (.int 1)))) (eA1 lenV (e2 ixV (eV 0) (eC (.int 0))))))
def m__law_draw_5 : SM := sAsg (gSet 2) (fE (e2 ixV (e2 ixV (eV 0) (eC (.int 0))) (eV 3)))
def m__law_draw_3 : SM := sIf (bB (e2 gtV (eA1 lenV (e2 ixV (eV 0) (eC (.int 0)))) (eC (.int 0)))) (sSeq m__law_draw_4 m__law_draw_5) (sNx)
def m__law_draw_7 : SM := sPutO (e2 divV (eA1 intV (eV 2)) (eV 1)) (e2 ixV (eV 0) (eC (.int 0))) (eV 3)
def m__law_draw_8 : SM := sRet (e2 modV (eA1 intV (eV 2)) (eV 1))
def m__law_draw_6 : SM := sIf (bB (e2 geV (eV 2) (e2 powV (eC (.int 10)) (eC (.int 18))))) (sSeq m__law_draw_7 m__law_draw_8) (sNx)
def m__law_draw_9 : SM := sAsg (gSet 4) (fE (e2 addV (e2 addV (e2 modV (eA1 intV (eV 2)) (eC (.int 2147483563))) (e2 mulV (eC (.int 8117)) (e2 ixV (eV 0) (eC (.int 1))))) (eC (.int 3))))
def m__law_draw_10 : SM := sRet (e2 modV (eA1 intV (e2 modV (eA1 intV (e2 powV (eV 4) (eC (.int 5)))) (eC (.int 2147483629)))) (eV 1))
def m__law_draw : SM := sSeq m__law_draw_1 (sSeq m__law_draw_2 (sSeq m__law_draw_3 (sSeq m__law_draw_6 (sSeq m__law_draw_9 m__law_draw_10))))
def F__law_draw : FN := bodyF 5 m__law_draw
def m__law_one_1 : SM := sRet (e2 ixV (eV 1) (eCall 2 F__law_draw (aC (eV 0) (aC (eA1 lenV (eV 1)) (aN)))))
def m__law_one : SM := m__law_one_1
def F__law_one : FN := bodyF 2 m__law_one
def cellsOb (cs : List Int) : Ob := .lst (cs.map fun i => SV.d (.int i))
def Deck (rest : Store) (n : Int) (S : Store) : Prop := ∃ (cs : List Int) (c : Int), S = cellsOb cs :: .lst [.obj 0, .d (.int c)] :: rest ∧ (∀ i ∈ cs, 0 ≤ i) ∧ 0 ≤ c ∧ c ≤ n
theorem Deck.mono {rest : Store} {n n' : Int} {S : Store} (h : Deck rest n S) (l : n ≤ n') : Deck rest n' S := by
  obtain ⟨cs, c, e, p, c0, c1⟩ := h
  exact ⟨cs, c, e, p, c0, by omega⟩
local macro_rules
  | `(tactic| walk_at "go") => `(tactic| simp only [sSeq, ssat_next, ssat_toS, ssat_nx, ssat_rt, ssat_bk, ssat_ct, ssat_bad, ssat_if, sat_ok, sat_bad, sat_exc, sat_bind, sat_if, sPutO, sAsg, fE, sIf, sNx, sRet, sDrop, sOwn, sApp, sExt, sPar, sFor, e1, e2, eV, eC, eA, eA1, aC, aN, eSl, oN, oS, eP, eM1, eIf, eCall, eJ, jC, jN, bB, bTr, bAnd, bOr, bNot, eAnd, eOr, eNot, bYes, iSeq, iA, ofG, ofO, gSet, ggNil, ggCons, ggTup, mkTup, mkLst, mkObj, asDs, asD, ownL,
      List.map_cons, List.map_nil, List.cons_append, List.nil_append, List.length_cons, List.length_nil, List.length_set, List.replicate, List.getElem?_cons_succ, List.getElem?_cons_zero, List.getElem?_nil, List.set_cons_succ, List.set_cons_zero, List.all_cons, List.all_nil, setAll, Option.map_some, Option.map_none, Option.bind_some, Option.bind_none,
      ixV, addV, subV, mulV, modV, divV, powV, negV, lenV, intV, absI, boolV, truthV, ltV, gtV, leV, geV, isV, isNone, L2.atI, ixN, Bool.false_xor, Bool.true_xor, Bool.not_true, Bool.not_false, Bool.and_true, Bool.true_and, Bool.and_false, Bool.false_and, decide_true, decide_false, decide_eq_true_eq, Bool.and_eq_true, if_true, if_false, reduceIte, ite_true, ite_false, true_and, and_true, Int.cast_ofNat_Int, Nat.reduceAdd, Nat.reduceSub, Nat.reduceLT, Int.reduceLT, Int.reduceLE, Int.reduceToNat, Nat.lt_add_one])
theorem draw_ok {rest : Store} {n many : Int} {S : Store} (D : Deck rest n S) (hn : n ≤ 1099511627776) (h0 : 0 < many) (h1 : many < 1073741824) :
    (F__law_draw [.obj 1, .d (.int many)] S).sat (fun v S' => ∃ k, v = .d (.int k) ∧ 0 ≤ k ∧ k < many ∧ Deck rest (n + 1) S') NoX := by
  obtain ⟨cs, c, rfl, pos, c0, c1⟩ := D
  unfold F__law_draw
  rw [sat_body]
  unfold m__law_draw
  have D1 : Deck rest (n + 1) (cellsOb cs :: .lst [.obj 0, .d (.int (c + 1))] :: rest) := ⟨cs, c + 1, rfl, pos, by omega, by omega⟩
  refine seq_sat (fun fr S => fr = [some (.obj 1), some (.d (.int many)), none, none, none] ∧ S = cellsOb cs :: .lst [.obj 0, .d (.int (c + 1))] :: rest) ?_ ?_
  · simp only [m__law_draw_1]
    walk_at "go"
  rintro _ _ ⟨rfl, rfl⟩
  refine seq_sat (fun fr S => fr = [some (.obj 1), some (.d (.int many)), some (.d (.int 0)), some (.d (.int (-1))), none] ∧ S = cellsOb cs :: .lst [.obj 0, .d (.int (c + 1))] :: rest) ?_ ?_
  · simp only [m__law_draw_2]
    walk_at "go"
    decide
  rintro _ _ ⟨rfl, rfl⟩
  refine seq_sat (fun fr S => ∃ cell at_ : Int, fr = [some (.obj 1), some (.d (.int many)), some (.d (.int cell)), some (.d (.int at_)), none] ∧ S = cellsOb cs :: .lst [.obj 0, .d (.int (c + 1))] :: rest ∧ 0 ≤ cell ∧ (0 < cell → 0 ≤ at_ ∧ at_ < cs.length)) ?_ ?_
  · simp only [m__law_draw_3, cellsOb]
    walk_at "go"
    rw [List.length_map]
    by_cases hc : 0 < (cs.length : Int)
    · rw [if_pos hc]
      simp only [m__law_draw_4]
      walk_at "go"
      rw [List.length_map]
      refine ⟨hc, ?_⟩
      have a0 : 0 ≤ (c + 1) % (cs.length : Int) := Int.emod_nonneg _ (by omega)
      have a1 : (c + 1) % (cs.length : Int) < cs.length := Int.emod_lt_of_pos _ hc
      simp only [m__law_draw_5, e2, eV, eC, ixV]
      walk_at "go"
      rw [List.length_map, if_pos a0, if_pos a1]
      walk_at "go"
      rw [List.getElem?_map, List.getElem?_eq_getElem (by omega)]
      walk_at "go"
      exact ⟨_, _, rfl, pos _ (List.getElem_mem _), fun _ => ⟨a0, a1⟩⟩
    · rw [if_neg hc, ssat_nx]
      exact ⟨0, -1, rfl, rfl, by omega, fun z => by omega⟩
  rintro _ _ ⟨cell, at_, rfl, rfl, p0, p1⟩
  refine seq_sat (fun fr S => fr = [some (.obj 1), some (.d (.int many)), some (.d (.int cell)), some (.d (.int at_)), none] ∧ S = cellsOb cs :: .lst [.obj 0, .d (.int (c + 1))] :: rest) ?_ ?_
  · simp only [m__law_draw_6]
    walk_at "go"
    refine ⟨by decide, ?_⟩
    by_cases hb : (10 : Int) ^ 18 ≤ cell
    · rw [if_pos hb]
      obtain ⟨a0, a1⟩ := p1 (by
        have : (0 : Int) < 10 ^ 18 := by decide
        omega)
      simp only [m__law_draw_7, cellsOb]
      walk_at "go"
      refine ⟨⟨h0, h1⟩, ?_⟩
      rw [List.length_map, if_pos a0, if_pos a1]
      simp only [m__law_draw_8]
      walk_at "go"
      refine ⟨h0, _, rfl, Int.emod_nonneg _ (by omega), Int.emod_lt_of_pos _ h0, cs.set at_.toNat (cell / many), c + 1, ?_, fun i hi => ?_, by omega, by omega⟩
      · unfold cellsOb
        rw [List.map_set]
      · rcases List.mem_or_eq_of_mem_set hi with q | q
        · exact pos i q
        · rw [q]
          exact Int.ediv_nonneg p0 (by omega)
    · rw [if_neg hb, ssat_nx]
      exact ⟨rfl, rfl⟩
  rintro _ _ ⟨rfl, rfl⟩
  refine seq_sat (fun fr S => ∃ mx : Int, fr = [some (.obj 1), some (.d (.int many)), some (.d (.int cell)), some (.d (.int at_)), some (.d (.int mx))] ∧ S = cellsOb cs :: .lst [.obj 0, .d (.int (c + 1))] :: rest ∧ mx.natAbs < 2 ^ 64) ?_ ?_
  · simp only [m__law_draw_9]
    walk_at "go"
    refine ⟨rfl, _, rfl, ?_⟩
    have q0 : 0 ≤ cell % 2147483563 := Int.emod_nonneg _ (by decide)
    have q1 : cell % 2147483563 < 2147483563 := Int.emod_lt_of_pos _ (by decide)
    omega
  rintro _ _ ⟨mx, rfl, rfl, hm⟩
  simp only [m__law_draw_10]
  walk_at "go"
  exact ⟨hm, h0, _, rfl, Int.emod_nonneg _ (by omega), Int.emod_lt_of_pos _ h0, D1⟩
theorem at_in {α : Type} {xs : List α} {k : Int} (h0 : 0 ≤ k) (h1 : k < xs.length) : ∃ x, x ∈ xs ∧ L2.atI xs k = some x := by
  refine ⟨xs[k.toNat]'(by omega), List.getElem_mem _, ?_⟩
  unfold L2.atI ixN
  rw [if_pos h0, if_pos h1]
  exact List.getElem?_eq_getElem (by omega)
theorem one_list {rest : Store} {n : Int} {S : Store} {ds : List PyData} (D : Deck rest n S) (hn : n ≤ 1099511627776) (h0 : ds ≠ []) (h1 : ds.length < 1073741824) :
    (F__law_one [.obj 1, .d (.list ds)] S).sat (fun v S' => ∃ d, d ∈ ds ∧ v = .d d ∧ Deck rest (n + 1) S') NoX := by
  unfold F__law_one
  rw [sat_body]
  simp only [m__law_one, m__law_one_1]
  walk_at "go"
  have hl : 0 < ds.length := List.length_pos_iff.mpr h0
  refine (draw_ok D hn (by omega) (by omega)).on fun v S' ⟨k, e, k0, k1, D'⟩ => ?_
  subst e
  obtain ⟨x, hx, e⟩ := at_in k0 k1
  simp only [L2.atI] at e
  show (match (ixN ds.length k).bind fun j => ds[j]? with | some d => Rs.ok (SV.d d) S' | none => Rs.bad).sat _ _
  rw [e]
  exact sat_of ⟨x, hx, rfl, D'⟩
theorem one_str {rest : Store} {n : Int} {S : Store} {z : Str} (D : Deck rest n S) (hn : n ≤ 1099511627776) (h0 : 0 < z.cps.size) (h1 : z.cps.size ≤ sizeLine) :
    (F__law_one [.obj 1, .d (.str z)] S).sat (fun v S' => ∃ c, c ∈ z.cps.toList ∧ v = .d (.str ⟨#[c]⟩) ∧ Deck rest (n + 1) S') NoX := by
  unfold F__law_one
  rw [sat_body]
  simp only [m__law_one, m__law_one_1]
  walk_at "go"
  have hz : z.length = z.cps.size := rfl
  have hl : z.length ≤ sizeLine := by rw [hz]; exact h1
  have hl2 : z.cps.toList.length = z.cps.size := by simp
  have hs : sizeLine = 16777216 := sizeLine_eq
  refine ⟨hl, (draw_ok D hn (by omega) (by omega)).on fun v S' ⟨k, e, k0, k1, D'⟩ => ?_⟩
  subst e
  obtain ⟨x, hx, e⟩ := at_in (xs := z.cps.toList) k0 (by rw [hl2, ← hz]; exact k1)
  simp only [L2.atI] at e
  show (match (ixN z.cps.toList.length k).bind fun j => z.cps.toList[j]? with | some c => if z.length ≤ sizeLine then Rs.ok (SV.d (.str ⟨#[c]⟩)) S' else .bad | none => Rs.bad).sat _ _
  rw [e]
  show (if z.length ≤ sizeLine then Rs.ok (SV.d (.str ⟨#[x]⟩)) S' else .bad).sat _ _
  rw [if_pos hl]
  exact sat_of ⟨x, hx, rfl, D'⟩
def absN (i : Int) : Int := if i < 0 then -i else i
theorem deck_ok (ns : List Int) (h : ns.length ≤ 63) : ∃ S, F__law_deck [.scr ns] [] = .ok (.obj 1) S ∧ Deck [] 0 S := by
  let cs : List Int := (cutI ns none (some 63)).map absN
  have hl : (cutI ns none (some 63)).length ≤ 63 := by
    unfold cutI
    rw [List.length_take, List.length_drop]
    omega
  have hc : compF (gSet 1) bYes (eA1 absI (eV 1)) [1] [some (.scr ns), none] (((cutI ns none (some 63)).map PyData.int).map SV.d) [] [] = .ok ([] ++ (((cutI ns none (some 63)).map PyData.int).map SV.d).map fun x => match x with
      | .d (.int i) => PyData.int (absN i)
      | _ => .none) [] := by
    refine comp_pure (fun x hx => ?_) (by
      rw [List.length_map, List.length_map]
      have : sizeLine = 16777216 := sizeLine_eq
      simp
      omega)
    rw [List.map_map, List.mem_map] at hx
    obtain ⟨i, _, rfl⟩ := hx
    exact ⟨_, rfl, rfl⟩
  rw [List.nil_append, List.map_map, List.map_map] at hc
  have e2 : (cutI ns none (some 63)).map (((fun x : SV => match x with
      | .d (.int i) => PyData.int (absN i)
      | _ => .none)) ∘ (SV.d ∘ PyData.int)) = cs.map PyData.int := by
    rw [List.map_map]
    rfl
  refine ⟨[cellsOb cs, .lst [.obj 0, .d (.int 0)]], ?_, cs, 0, rfl, fun i hi => ?_, by omega, by omega⟩
  · unfold F__law_deck bodyF
    have e1 : eLc (iSeq (eSl (eV 0) oN (oS (eC (.int 63))))) (gSet 1) bYes (eA1 absI (eV 1)) [1] [some (.scr ns), none] [] = .ok (.d (.list (cs.map .int))) [] := by
      show (compF (gSet 1) bYes (eA1 absI (eV 1)) [1] [some (.scr ns), none] (((cutI ns none (some 63)).map PyData.int).map SV.d) [] []).bind _ = _
      rw [List.map_map, hc, e2]
      rfl
    have e3 : m__law_deck [some (.scr ns), none] [] = .rt (.obj 1) [cellsOb cs, .lst [.obj 0, .d (.int 0)]] := by
      show (Rs.bind (Rs.bind (Rs.bind (eLc (iSeq (eSl (eV 0) oN (oS (eC (.int 63))))) (gSet 1) bYes (eA1 absI (eV 1)) [1] [some (.scr ns), none] []) _) _) _).toS _ _ = _
      rw [e1]
      show (mkObj [.obj 0, .d (.int 0)] [.lst ((cs.map PyData.int).map SV.d)]).toS _ _ = _
      unfold mkObj cellsOb
      rw [if_pos (by decide), List.map_map]
      rfl
    show (match m__law_deck [some (.scr ns), none] [] with | .rt v S' => Rs.ok v S' | .nx _ S' => .ok (.d .none) S' | .exc x _ S' => .exc x S' | _ => .bad) = _
    rw [e3]
  · obtain ⟨j, _, rfl⟩ := List.mem_map.mp hi
    unfold absN
    split <;> omega
end PD
namespace PD
open PySem PySem.Spec PyProof.Rows L2
def Tx (n : Nat) (s : Str) : Prop := s.length ≤ n ∧ ∀ c ∈ s.cps.toList, c < 1114112
theorem Tx.mono {n m : Nat} {s : Str} (h : Tx n s) (l : n ≤ m) : Tx m s := ⟨Nat.le_trans h.1 l, h.2⟩
theorem Tx.app {n m : Nat} {s t : Str} (h : Tx n s) (k : Tx m t) : Tx (n + m) (s ++ t) := by
  refine ⟨by rw [Str.length_append]; exact Nat.add_le_add h.1 k.1, fun c hc => ?_⟩
  rw [Str.cps_append, Array.toList_append, List.mem_append] at hc
  exact hc.elim (h.2 c) (k.2 c)
theorem Tx.nil {n : Nat} : Tx n Str.empty := ⟨Nat.zero_le _, fun c hc => by simp [Str.empty] at hc⟩
theorem Tx.one {n c : Nat} (h : c < 1114112) (hn : 1 ≤ n) : Tx n ⟨#[c]⟩ := ⟨hn, fun d hd => by simp at hd; omega⟩
theorem Tx.of (s : String) : Tx s.length (Str.ofString s) := by
  rw [Str.ofString_eq_toList]
  refine ⟨by simp [Str.length, String.length], fun c hc => ?_⟩
  obtain ⟨d, _, rfl⟩ := List.mem_map.mp (by simpa using hc)
  have : d.toNat < 1114112 := by
    have := d.valid
    unfold Char.toNat
    rcases this with h | ⟨_, h⟩ <;> omega
  omega
theorem Tx.lit {n : Nat} {s : String} (h : s.length ≤ n := by decide) : Tx n (Str.ofString s) := (Tx.of s).mono h
theorem Tx.num {k : Nat} {i : Int} (h : i.natAbs < 10 ^ k) (hk : 0 < k := by decide) : Tx (k + 1) (Str.ofString (toString i)) := (Tx.of _).mono (int_text_length_le10 hk h)
theorem Tx.join {n m k : Nat} {y : Str} (hy : Tx m y) : ∀ {ps : List Str}, (∀ p ∈ ps, Tx n p) → ps.length ≤ k → Tx (k * (n + m)) (Txt.join y ps) := by
  intro ps
  rw [TL.join_eq]
  induction ps generalizing k with
  | nil => exact fun _ _ => Tx.nil
  | cons p ps ih =>
    intro h hk
    obtain ⟨k, rfl⟩ : ∃ j, k = j + 1 := ⟨k - 1, by rw [List.length_cons] at hk; omega⟩
    have e : (k + 1) * (n + m) = (n + m) + k * (n + m) := by rw [Nat.succ_mul, Nat.add_comm]
    cases ps with
    | nil =>
      refine (h p List.mem_cons_self).mono ?_
      rw [e]
      omega
    | cons q ps =>
      have := ih (k := k) (fun r hr => h r (List.mem_cons_of_mem _ hr)) (by rw [List.length_cons] at hk; omega)
      show Tx _ (p ++ y ++ Str.join y (q :: ps))
      rw [e]
      exact ((h p List.mem_cons_self).app hy).app this
theorem Tx.repr {n : Nat} {s : Str} (h : Tx n s) : (reprText s).length ≤ 10 * n + 2 := by
  have := PySem.StrLaws.reprText_len s fun c hc => by have := h.2 c hc; omega
  have := h.1
  omega
theorem Tx.len {n : Nat} {s : Str} (h : Tx n s) : s.length ≤ n := h.1
theorem log2_small {i : Int} {k : Nat} (h : i.natAbs < 10 ^ k) (hk : k ≤ 400 := by decide) : i.natAbs.log2 < 1920 := by
  by_cases e : i.natAbs = 0
  · rw [e]
    decide
  · rw [Nat.log2_lt e]
    refine Nat.lt_of_lt_of_le h ?_
    calc 10 ^ k ≤ 10 ^ 400 := Nat.pow_le_pow_right (by decide) hk
      _ ≤ 2 ^ 1920 := by decide +kernel
theorem Tx.strOk {n : Nat} {s : Str} (h : Tx n s) : (PyData.str s).canLay0 = true := by
  unfold PyData.canLay0 PyData.strOk
  rw [← Array.all_toList, List.all_eq_true]
  exact fun c hc => by simpa using h.2 c hc
theorem eq_str {neg : Bool} {S : Store} {a b : Str} : eqV neg (.d (.str a)) (.d (.str b)) S = .ok (.d (.bool (neg ^^ decide (a = b)))) S := rfl
theorem eq_int {neg : Bool} {S : Store} {i j : Int} : eqV neg (.d (.int i)) (.d (.int j)) S = .ok (.d (.bool (neg ^^ (i == j)))) S := by
  show (if eqOk (.int i) (.int j) = true then Rs.ok (SV.d (.bool (neg ^^ PyData.eqv (.int i) (.int j)))) S else .bad) = _
  rw [if_pos (by rfl)]
  simp only [PyData.eqv]
theorem sat_eq {α : Type} {r : Rs α} {a : α} {S : Store} (h : r.sat (fun v S' => v = a ∧ S' = S) NoX) : r = .ok a S := by
  obtain ⟨v, S', e, rfl, rfl⟩ := h.ex
  exact e
theorem len_nil : Str.empty.length = 0 := rfl
theorem Paired.app {α β : Type} {R : α → β → Prop} : ∀ {xs : List α} {ys : List β} {xs' : List α} {ys' : List β}, Paired R xs ys → Paired R xs' ys' → Paired R (xs ++ xs') (ys ++ ys')
  | _, _, _, _, .nil, k => k
  | _, _, _, _, .cons h t, k => .cons h (Paired.app t k)
theorem strs_map : ∀ ts : List Str, strsOf (ts.map .str) = some ts
  | [] => rfl
  | t :: ts => by simp [strsOf, strs_map ts]
theorem join_ok {S : Store} {a : Str} {ts : List Str} {n m : Nat} (ha : Tx m a) (h : ∀ t ∈ ts, Tx n t) (hl : ts.length * (n + m) ≤ 16777216) : joinV (.d (.str a)) (.d (.list (ts.map .str))) S = .ok (.d (.str (Txt.join a ts))) S := by
  have e : (ts.map (·.length)).sum + ts.length * a.length ≤ 16777216 := by
    have q : (ts.map (·.length)).sum ≤ ts.length * n := by
      clear hl
      induction ts with
      | nil => simp
      | cons t ts ih =>
        have h1 := (h t List.mem_cons_self).1
        have h2 := ih fun t ht => h t (List.mem_cons_of_mem _ ht)
        rw [List.map_cons, List.sum_cons, List.length_cons, Nat.succ_mul]
        omega
    have r : ts.length * a.length ≤ ts.length * m := Nat.mul_le_mul_left _ ha.1
    rw [Nat.mul_add] at hl
    omega
  show (match strsOf (ts.map .str) with
    | some ys => if (ys.map fun t : Str => t.length).sum + ys.length * a.length ≤ 16777216 then Rs.ok (SV.d (.str (Txt.join a ys))) S else .bad
    | none => .bad) = _
  rw [strs_map]
  show (if (ts.map (·.length)).sum + ts.length * a.length ≤ 16777216 then Rs.ok (SV.d (.str (Txt.join a ts))) S else .bad) = _
  rw [if_pos e]
theorem ssat_for1 {g : GM} {m : SM} {x : SV} {xs : List SV} {fr fr1 : Fr} {S : Store} {p : Po} (e : g x fr = some fr1) (h : (m fr1 S).sat { p with nx := fun fr S => (forF g m xs fr S).sat p, ct := fun fr S => (forF g m xs fr S).sat p, bk := p.nx }) : (forF g m (x :: xs) fr S).sat p := by
  have e1 : forF g m (x :: xs) fr S = (match m fr1 S with
      | .nx fr2 S2 => forF g m xs fr2 S2
      | .ct fr2 S2 => forF g m xs fr2 S2
      | .bk fr2 S2 => .nx fr2 S2
      | r => r) := by
    simp only [forF, e]
    all_goals rfl
  rw [e1]
  cases q : m fr1 S with
  | nx fr2 S2 =>
    rw [q, ssat_nx] at h
    exact h
  | ct fr2 S2 =>
    rw [q, ssat_ct] at h
    exact h
  | bk fr2 S2 =>
    rw [q, ssat_bk] at h
    show (SR.nx fr2 S2).sat p
    rw [ssat_nx]
    exact h
  | rt v S2 =>
    rw [q, ssat_rt] at h
    show (SR.rt v S2).sat p
    rw [ssat_rt]
    exact h
  | exc x fr2 S2 =>
    rw [q, ssat_exc] at h
    show (SR.exc x fr2 S2).sat p
    rw [ssat_exc]
    exact h
  | bad =>
    rw [q, ssat_bad] at h
    exact h.elim
theorem ssat_for0 {g : GM} {m : SM} {fr : Fr} {S : Store} {p : Po} (h : p.nx fr S) : (forF g m [] fr S).sat p := by
  show (SR.nx fr S).sat p
  rw [ssat_nx]
  exact h
theorem Paired.mem {α β : Type} {R : α → β → Prop} {b : β} : ∀ {xs : List α} {ys : List β}, Paired R xs ys → b ∈ ys → ∃ a ∈ xs, R a b
  | _, _, .nil, h => by cases h
  | _, _, .cons r t, h => by
    rcases List.mem_cons.mp h with rfl | h
    · exact ⟨_, List.mem_cons_self, r⟩
    · obtain ⟨a, ha, q⟩ := Paired.mem t h
      exact ⟨a, List.mem_cons_of_mem _ ha, q⟩
end PD
namespace PD
open PySem PySem.Spec PyProof.Rows L2
theorem strs_of_all {P : Str → Prop} : ∀ {ds : List PyData}, (∀ d ∈ ds, ∃ s, d = .str s ∧ P s) → ∃ ts : List Str, ds = ts.map .str ∧ ∀ t ∈ ts, P t
  | [], _ => ⟨[], rfl, by simp⟩
  | d :: ds, h => by
    obtain ⟨s, rfl, p⟩ := h d List.mem_cons_self
    obtain ⟨ts, rfl, q⟩ := strs_of_all fun e he => h e (List.mem_cons_of_mem _ he)
    exact ⟨s :: ts, rfl, fun t ht => by
      rcases List.mem_cons.mp ht with rfl | ht
      · exact p
      · exact q t ht⟩
theorem rng_get {lo hi : Int} {k : Nat} {x : SV} (h : (rngL lo hi)[k]? = some x) : x = .d (.int (lo + (k : Nat))) ∧ lo + (k : Nat) < hi := by
  unfold rngL at h
  rw [List.getElem?_map] at h
  by_cases hk : k < (hi - lo).toNat
  · rw [List.getElem?_range hk] at h
    exact ⟨(Option.some.inj h).symm, by omega⟩
  · rw [List.getElem?_eq_none (by simpa using hk)] at h
    cases h
theorem rng_len {lo hi : Int} : (rngL lo hi).length = (hi - lo).toNat := by simp [rngL]
theorem rng1_ok {k : Int} {S : Store} (h0 : -1073741824 ≤ k) (h1 : k ≤ 1073741824) : rng1V [.d (.int k)] S = .ok (rngL 0 k) S := by
  have e : big62 k = true := by
    simp only [big62, Bool.and_eq_true, decide_eq_true_eq]
    omega
  show (if big62 k = true then Rs.ok (rngL 0 k) S else .bad) = _
  rw [if_pos e]
theorem ssat_rng {g : GM} {m : SM} {p : Po} {hi : Int} {fr : Fr} {S : Store} (I : Nat → Fr → Store → Prop) (h0 : I 0 fr S)
    (hs : ∀ (k : Nat) fr S, (k : Int) < hi → I k fr S → ∃ fr1, g (.d (.int (k : Nat))) fr = some fr1 ∧ (m fr1 S).sat ⟨I (k + 1), p.nx, I (k + 1), p.rt, p.ex⟩) (hf : ∀ fr S, I hi.toNat fr S → p.nx fr S) : (forF g m (rngL 0 hi) fr S).sat p := by
  refine ssat_for I 0 h0 (fun k x fr S e h => ?_) fun fr S h => hf fr S ?_
  · obtain ⟨rfl, l⟩ := rng_get e
    rw [Nat.zero_add] at h ⊢
    have := hs k fr S (by omega) h
    simpa using this
  · rw [rng_len, Nat.zero_add, Int.sub_zero] at h
    exact h
theorem sat_crng {g : GM} {te : EM} {vs : List Nat} {fr : Fr} {hi : Int} {S : Store} {Q : List PyData → Store → Prop} {X : Exc → Store → Prop} (I : Nat → Store → List PyData → Prop) (h0 : I 0 S [])
    (hs : ∀ (k : Nat) S acc, (k : Int) < hi → acc.length ≤ k → I k S acc → ∃ fr1, g (.d (.int (k : Nat))) (wipeF fr vs) = some fr1 ∧ (te fr1 S).sat (fun y S2 => ∃ d, y = .d d ∧ I (k + 1) S2 (acc ++ [d])) NoX) (hl : hi ≤ 1000000)
    (hf : ∀ S acc, acc.length ≤ hi.toNat → I hi.toNat S acc → Q acc S) : (compF g bYes te vs fr (rngL 0 hi) S []).sat Q X := by
  have sz : sizeLine = 16777216 := sizeLine_eq
  refine sat_comp (fun k S acc => acc.length ≤ k ∧ I k S acc) 0 ⟨Nat.le_refl _, h0⟩ (fun k x S acc e h => ?_) fun S acc h => ?_
  · obtain ⟨rfl, l⟩ := rng_get e
    rw [Nat.zero_add] at h ⊢
    obtain ⟨fr1, e1, h1⟩ := hs k S acc (by omega) h.1 h.2
    rw [Int.zero_add]
    refine ⟨fr1, e1, ?_⟩
    simp only [bYes, sat_ok, if_true]
    refine h1.on fun y S2 ⟨d, ey, h2⟩ => ⟨d, ey, ?_, ?_, h2⟩
    · have := h.1
      omega
    · have := h.1
      simp
      omega
  · rw [rng_len, Nat.zero_add, Int.sub_zero] at h
    exact hf S acc h.1 h.2
theorem Str1.len {c : Nat} : (⟨#[c]⟩ : Str).length = 1 := rfl
structure Sh (k n : Nat) (d : PyData) : Prop where
  ok : d.showable = true
  nd : d.hasDict = false
  dp : d.depth ≤ k
  ln : d.shown.length ≤ n
theorem Sh.mono {k k' n n' : Nat} {d : PyData} (h : Sh k n d) (a : k ≤ k') (b : n ≤ n') : Sh k' n' d := ⟨h.ok, h.nd, Nat.le_trans h.dp a, Nat.le_trans h.ln b⟩
theorem Sh.none {k n : Nat} (h : 4 ≤ n) : Sh k n .none := ⟨rfl, rfl, Nat.zero_le _, h⟩
theorem Sh.bool {k n : Nat} {b : Bool} (h : 5 ≤ n) : Sh k n (.bool b) := ⟨rfl, rfl, Nat.zero_le _, by cases b <;> (refine Nat.le_trans ?_ h; decide)⟩
theorem Sh.int {k m n : Nat} {i : Int} (h : i.natAbs < 10 ^ m) (hm : m ≤ 400) (h0 : 0 < m) (hn : m + 1 ≤ n) : Sh k n (.int i) :=
  ⟨by simp only [PyData.showable, decide_eq_true_eq]; exact log2_small h hm, rfl, Nat.zero_le _, Nat.le_trans (Tx.num h h0).len hn⟩
theorem Sh.str {k m n : Nat} {s : Str} (h : Tx m s) (hn : 10 * m + 2 ≤ n) : Sh k n (.str s) := ⟨rfl, rfl, Nat.zero_le _, Nat.le_trans h.repr hn⟩
theorem sh_all {k n : Nat} : ∀ {ds : List PyData}, (∀ d ∈ ds, Sh k n d) → PyData.showableAll ds = true ∧ PyData.hasDictAll ds = false ∧ PyData.depthAll ds ≤ k ∧ (∀ t ∈ PyData.shownAll ds, t.length ≤ n) ∧ (PyData.shownAll ds).length = ds.length
  | [], _ => ⟨rfl, rfl, Nat.zero_le _, by simp [PyData.shownAll], rfl⟩
  | d :: ds, h => by
    obtain ⟨a, b, c, e, f⟩ := sh_all fun x hx => h x (List.mem_cons_of_mem _ hx)
    have g := h d List.mem_cons_self
    refine ⟨?_, ?_, ?_, fun t ht => ?_, ?_⟩
    · simp only [PyData.showableAll, g.ok, a, Bool.and_self]
    · simp only [PyData.hasDictAll, g.nd, b, Bool.or_self]
    · simp only [PyData.depthAll]
      exact Nat.max_le.mpr ⟨g.dp, c⟩
    · simp only [PyData.shownAll, List.mem_cons] at ht
      rcases ht with rfl | ht
      · exact g.ln
      · exact e t ht
    · simp only [PyData.shownAll, List.length_cons, f]
theorem join_le {y : Str} {n : Nat} : ∀ {ts : List Str}, (∀ t ∈ ts, t.length ≤ n) → (Str.join y ts).length ≤ ts.length * (n + y.length)
  | [], _ => by simp [Str.join, Str.empty, Str.length]
  | [t], h => by
    have := h t List.mem_cons_self
    show t.length ≤ _
    simp
    omega
  | t :: u :: ts, h => by
    have h1 := h t List.mem_cons_self
    have h2 := join_le (y := y) (ts := u :: ts) fun x hx => h x (List.mem_cons_of_mem _ hx)
    show (t ++ y ++ Str.join y (u :: ts)).length ≤ _
    rw [Str.length_append, Str.length_append]
    have e : (t :: u :: ts).length * (n + y.length) = (n + y.length) + (u :: ts).length * (n + y.length) := by
      rw [List.length_cons, Nat.succ_mul, Nat.add_comm]
    rw [e]
    omega
theorem from_le {n : Nat} : ∀ {ts : List Str} {k : Nat} {acc : Str}, (∀ t ∈ ts, t.length ≤ n) → (textFrom k acc ts).length ≤ acc.length + ts.length * (n + 2)
  | [], _, acc, _ => by
    show acc.length ≤ _
    omega
  | t :: ts, k, acc, h => by
    have h1 := h t List.mem_cons_self
    have h2 := from_le (ts := ts) (k := k + 1) (acc := acc ++ (if k > 0 then ", " else "" : String) ++ t) fun x hx => h x (List.mem_cons_of_mem _ hx)
    have e : (Str.ofString (if k > 0 then ", " else "" : String)).length ≤ 2 := by
      by_cases q : k > 0
      · rw [if_pos q]
        decide
      · rw [if_neg q]
        decide
    rw [Str.length_append, Str.length_append] at h2
    show (textFrom (k + 1) (acc ++ (if k > 0 then ", " else "" : String) ++ t) ts).length ≤ _
    rw [List.length_cons, Nat.succ_mul]
    omega
theorem Sh.list {k n m : Nat} {ds : List PyData} (h : ∀ d ∈ ds, Sh k n d) (hl : ds.length ≤ m) : Sh (k + 1) (3 + m * (n + 2)) (.list ds) := by
  obtain ⟨a, b, c, e, f⟩ := sh_all h
  refine ⟨by simpa only [PyData.showable] using a, by simpa only [PyData.hasDict] using b, by simp only [PyData.depth]; omega, ?_⟩
  have j := from_le (k := 0) (acc := ("[" : Str)) e
  rw [f] at j
  have q : ds.length * (n + 2) ≤ m * (n + 2) := Nat.mul_le_mul_right _ hl
  show (textFrom 0 "[" (PyData.shownAll ds) ++ ("]" : Str)).length ≤ _
  have l1 : ("[" : Str).length = 1 := rfl
  have l2 : ("]" : Str).length = 1 := rfl
  rw [Str.length_append, l2]
  rw [l1] at j
  omega
theorem Sh.tuple {k n m : Nat} {ds : List PyData} (h : ∀ d ∈ ds, Sh k n d) (hl : ds.length ≤ m) : Sh (k + 1) (3 + m * (n + 2)) (.tuple ds) := by
  obtain ⟨a, b, c, e, f⟩ := sh_all h
  refine ⟨by simpa only [PyData.showable] using a, by simpa only [PyData.hasDict] using b, by simp only [PyData.depth]; omega, ?_⟩
  have j := join_le (y := ", ") e
  have l0 : (", " : Str).length = 2 := rfl
  rw [l0, f] at j
  have q : ds.length * (n + 2) ≤ m * (n + 2) := Nat.mul_le_mul_right _ hl
  show (("(" : Str) ++ Str.join ", " (PyData.shownAll ds) ++ (if (PyData.shownAll ds).length == 1 then ",)" else ")" : String)).length ≤ _
  have l1 : ("(" : Str).length = 1 := rfl
  have l2 : (Str.ofString (if (PyData.shownAll ds).length == 1 then ",)" else ")" : String)).length ≤ 2 := by
    by_cases q : ((PyData.shownAll ds).length == 1) = true
    · rw [if_pos q]
      decide
    · rw [if_neg q]
      decide
  rw [Str.length_append, Str.length_append, l1]
  omega
theorem cut_take {ds : List PyData} {k : Nat} : PD.cutD ds none (some (k : Int)) = ds.take k := by
  unfold PD.cutD
  rw [HT.sIx_none, HT.sIx_nat, Nat.sub_zero, List.drop_zero]
  by_cases h : k ≤ ds.length
  · rw [Nat.min_eq_left h]
  · rw [Nat.min_eq_right (by omega), List.take_of_length_le (Nat.le_refl _), List.take_of_length_le (by omega)]
theorem cut_drop {ds : List PyData} {k : Nat} : PD.cutD ds (some (k : Int)) none = ds.drop k := by
  unfold PD.cutD
  rw [HT.sIx_none, HT.sIx_nat]
  by_cases h : k ≤ ds.length
  · rw [Nat.min_eq_left h, List.take_of_length_le (by rw [List.length_drop]; exact Nat.le_refl _)]
  · rw [Nat.min_eq_right (by omega), List.drop_eq_nil_of_le (Nat.le_refl _), List.drop_eq_nil_of_le (by omega)]
    simp
end PD
namespace PD
open PySem PySem.Spec PyProof.Rows L2
theorem map_of_all {α β : Type} {f : α → β} : ∀ {ds : List β}, (∀ d ∈ ds, ∃ p, d = f p) → ∃ qs : List α, ds = qs.map f
  | [], _ => ⟨[], rfl⟩
  | d :: ds, h => by
    obtain ⟨p, rfl⟩ := h d List.mem_cons_self
    obtain ⟨qs, rfl⟩ := map_of_all (ds := ds) fun x hx => h x (List.mem_cons_of_mem _ hx)
    exact ⟨p :: qs, rfl⟩
theorem ddup_len : ∀ ds : List PyData, (ddup ds).length ≤ ds.length
  | [] => Nat.le_refl _
  | d :: r => by
    unfold ddup
    have := ddup_len r
    split
    · rw [List.length_cons]; omega
    · rw [List.length_cons, List.length_cons]; omega
def pd (p : Str × Int) : PyData := .tuple [.str p.1, .int p.2]
theorem pd_inj {p q : Str × Int} (h : pd p = pd q) : p = q := by
  obtain ⟨a, b⟩ := p
  obtain ⟨c, d⟩ := q
  simp only [pd, PyData.tuple.injEq, List.cons.injEq, PyData.str.injEq, PyData.int.injEq, and_true] at h
  rw [h.1, h.2]
def pairLt (p q : Str × Int) : Prop := p.1.cps.toList < q.1.cps.toList ∨ (p.1 = q.1 ∧ p.2 < q.2)
theorem pd_lt (p q : Str × Int) : PySem.W.dataLt (pd p) (pd q) = true ↔ pairLt p q := by
  unfold pd pairLt
  rw [PySem.W.dataLt_pair (by rfl) (by rfl)]
  simp only [PyData.eqv, PySem.W.dataLt_int, PySem.W.dataLt_str, beq_iff_eq]
  by_cases h1 : p.1 = q.1
  · rw [if_pos h1]
    have irr : ¬ p.1.cps.toList < q.1.cps.toList := by rw [h1]; exact List.lt_irrefl _
    by_cases h2 : p.2 = q.2
    · rw [if_pos h2]
      simp [irr, h2]
    · rw [if_neg h2]
      simp only [decide_eq_true_eq]
      exact ⟨fun h => .inr ⟨h1, h⟩, fun h => h.elim (fun z => absurd z irr) And.right⟩
  · rw [if_neg h1]
    simp [h1]
theorem sortset_pairs {S : Store} {ps : List (Str × Int)} (hl : ps.length < 64) : ∃ qs : List (Str × Int), sortSetV (.d (.list (ps.map pd))) S = .ok (.d (.list (qs.map pd))) S ∧ (∀ p, p ∈ qs ↔ p ∈ ps) ∧ qs.Pairwise pairLt ∧ qs.length ≤ ps.length := by
  have key : ∀ p, toKey (pd p) = some (.tup [.text p.1, .num p.2]) := fun p => rfl
  have kd : ∀ d ∈ ps.map pd, keyed d := fun d hd => by
    obtain ⟨p, _, rfl⟩ := List.mem_map.mp hd
    exact ⟨_, key p⟩
  obtain ⟨m, nd⟩ := ddup_spec kd
  obtain ⟨qs, hq⟩ : ∃ qs : List (Str × Int), dsort (ddup (ps.map pd)) = qs.map pd := map_of_all fun d hd => by
    have := (m d).mp ((dsort_perm _).mem_iff.mp hd)
    obtain ⟨p, _, rfl⟩ := List.mem_map.mp this
    exact ⟨p, rfl⟩
  have mem : ∀ p, p ∈ qs ↔ p ∈ ps := fun p => by
    have e : pd p ∈ qs.map pd ↔ pd p ∈ ps.map pd := by rw [← hq, (dsort_perm _).mem_iff, m]
    have inj : ∀ l : List (Str × Int), pd p ∈ l.map pd ↔ p ∈ l := fun l => ⟨fun h => by
      obtain ⟨q, hq, e⟩ := List.mem_map.mp h
      rw [← pd_inj e]
      exact hq, fun h => List.mem_map.mpr ⟨p, h, rfl⟩⟩
    rw [inj, inj] at e
    exact e
  have len : qs.length ≤ ps.length := by
    have e := congrArg List.length hq
    rw [List.length_map, (dsort_perm _).length_eq] at e
    have := ddup_len (ps.map pd)
    rw [List.length_map] at this
    omega
  have ok1 : setOk (ps.map pd) = true := by
    simp only [setOk, Bool.and_eq_true, List.all_eq_true, decide_eq_true_eq, List.length_map]
    refine ⟨fun d hd => ?_, hl⟩
    obtain ⟨p, _, rfl⟩ := List.mem_map.mp hd
    simp [rowD, pd, toKey, toKeys, PyData.depth, PyData.depthAll]
  have al : PySem.W.AllAlike (ddup (ps.map pd)) := fun d hd e he => by
    obtain ⟨p, _, rfl⟩ := List.mem_map.mp ((m d).mp hd)
    obtain ⟨q, _, rfl⟩ := List.mem_map.mp ((m e).mp he)
    rfl
  have ok2 : sortOk (ddup (ps.map pd)) = true := by
    simp only [sortOk, Bool.and_eq_true, Bool.or_eq_true, List.all_eq_true, decide_eq_true_eq]
    have dl := ddup_len (ps.map pd)
    rw [List.length_map] at dl
    refine ⟨⟨⟨alikeL_of al, by rw [sizeLine_eq]; omega⟩, fun d hd => ?_⟩, .inl fun d hd => ?_⟩
    all_goals
      obtain ⟨p, _, rfl⟩ := List.mem_map.mp ((m d).mp hd)
      simp [pd, PyData.depth, PyData.depthAll]
  refine ⟨qs, ?_, mem, ?_, len⟩
  · show (if (setOk (ps.map pd) && sortOk (ddup (ps.map pd))) = true then Rs.ok (SV.d (.list (dsort (ddup (ps.map pd))))) S else .bad) = _
    rw [ok1, ok2, hq]
    rfl
  · have so := dsort_sorted (ddup (ps.map pd))
    have nd2 := ((dsort_perm (ddup (ps.map pd))).nodup_iff).mpr nd
    rw [hq] at so nd2
    have both := so.and nd2
    rw [List.pairwise_map] at both
    refine both.imp fun {a b} ⟨h1, h2⟩ => ?_
    have h1' : ¬ pairLt b a := fun z => by
      have := (pd_lt b a).mpr z
      simp only [PySem.W.dataLe, PySem.W.sortLe, cond] at h1
      change (!PySem.W.dataLt (pd b) (pd a)) = true at h1
      rw [this] at h1
      cases h1
    have tri : a.1.cps.toList < b.1.cps.toList ∨ a.1.cps.toList = b.1.cps.toList ∨ b.1.cps.toList < a.1.cps.toList := by
      by_cases x : a.1.cps.toList < b.1.cps.toList
      · exact .inl x
      · by_cases y : b.1.cps.toList < a.1.cps.toList
        · exact .inr (.inr y)
        · exact .inr (.inl (List.le_antisymm y x))
    rcases tri with x | x | x
    · exact .inl x
    · have e := PySem.W.str_of_cps x
      refine .inr ⟨e, ?_⟩
      have n1 : ¬ b.2 < a.2 := fun z => h1' (.inr ⟨e.symm, z⟩)
      have n2 : a.2 ≠ b.2 := fun z => h2 (by rw [show a = b from Prod.ext e z])
      omega
    · exact absurd (.inl x) h1'
def Lw (n : Nat) (s : Str) : Prop := s.length ≤ n ∧ ∀ c ∈ s.cps.toList, 97 ≤ c ∧ c ≤ 122
theorem Lw.tx {n : Nat} {s : Str} (h : Lw n s) : Tx n s := ⟨h.1, fun c hc => by have := h.2 c hc; omega⟩
theorem Lw.app {n m : Nat} {s t : Str} (h : Lw n s) (k : Lw m t) : Lw (n + m) (s ++ t) := by
  refine ⟨by rw [Str.length_append]; exact Nat.add_le_add h.1 k.1, fun c hc => ?_⟩
  rw [Str.cps_append, Array.toList_append, List.mem_append] at hc
  exact hc.elim (h.2 c) (k.2 c)
theorem Lw.mono {n m : Nat} {s : Str} (h : Lw n s) (l : n ≤ m) : Lw m s := ⟨Nat.le_trans h.1 l, h.2⟩
theorem Lw.one {c : Nat} (h : 97 ≤ c ∧ c ≤ 122) : Lw 1 ⟨#[c]⟩ := ⟨Nat.le_refl _, fun d hd => by simp at hd; rw [hd]; exact h⟩
theorem Lw.nil {n : Nat} : Lw n Str.empty := ⟨Nat.zero_le _, fun c hc => by simp [Str.empty] at hc⟩
theorem Lw.join0 : ∀ {ps : List Str} {k : Nat}, (∀ p ∈ ps, Lw 1 p) → ps.length ≤ k → Lw k (Txt.join "" ps) := by
  intro ps
  rw [TL.join_eq]
  induction ps with
  | nil => exact fun _ _ => Lw.nil
  | cons p ps ih =>
    intro k h hk
    obtain ⟨k, rfl⟩ : ∃ j, k = j + 1 := ⟨k - 1, by rw [List.length_cons] at hk; omega⟩
    cases ps with
    | nil => exact (h p List.mem_cons_self).mono (by omega)
    | cons q ps =>
      have := ih (k := k) (fun r hr => h r (List.mem_cons_of_mem _ hr)) (by rw [List.length_cons] at hk; omega)
      show Lw _ (p ++ "" ++ Str.join "" (q :: ps))
      have e : (p ++ Str.ofString "" : Str) = p := Str.append_empty p
      rw [e, Nat.add_comm]
      exact (h p List.mem_cons_self).app this
theorem abc_lw : ∀ c ∈ (Str.ofString "abcdefghijklmnopqrstuvwxyz").cps.toList, 97 ≤ c ∧ c ≤ 122 := by decide +kernel
def Sn (s : Str) : Prop := Lw 8 s ∧ 0 < s.length
theorem Sn.tx {s : Str} (h : Sn s) : Tx 8 s := h.1.tx
end PD
namespace PD
open PySem PySem.Spec PyProof.Rows L2
theorem comp_map {α : Type} {enc : α → PyData} {g : GM} {te : EM} {vs : List Nat} {fr : Fr} {S : Store} {f : α → PyData} : ∀ {ys : List α} {acc : List PyData}, (∀ y ∈ ys, ∃ fr1, g (.d (enc y)) (wipeF fr vs) = some fr1 ∧ te fr1 S = .ok (.d (f y)) S) → acc.length + ys.length ≤ sizeLine →
    compF g bYes te vs fr ((ys.map enc).map .d) S acc = .ok (acc ++ ys.map f) S
  | [], acc, _, _ => by simp [compF]
  | y :: ys, acc, h, hl => by
    obtain ⟨fr1, e, h1⟩ := h y List.mem_cons_self
    rw [List.length_cons] at hl
    have e1 : compF g bYes te vs fr (((y :: ys).map enc).map .d) S acc = compF g bYes te vs fr ((ys.map enc).map .d) S (acc ++ [f y]) := by
      simp only [List.map_cons, compF, e, bYes, noX, Rs.bind, h1, if_true, if_pos (show acc.length < sizeLine by omega)]
    rw [e1, comp_map (fun z hz => h z (List.mem_cons_of_mem _ hz)) (by simp; omega)]
    simp
theorem intsOf_map : ∀ ns : List Int, intsOf (ns.map .int) = some ns
  | [] => rfl
  | n :: ns => by simp [intsOf, intsOf_map ns]
theorem sum_ok {S : Store} {ns : List Int} : sumV [.d (.list (ns.map .int))] S = .ok (.d (.int ns.sum)) S := by
  simp only [sumV, intsOf_map]
theorem ixT0 {S : Store} {x : PyData} {xs : List PyData} : ixV (.d (.tuple (x :: xs))) (.d (.int 0)) S = .ok (.d x) S := by
  simp [ixV, L2.atI, ixN]
theorem ixT1 {S : Store} {x y : PyData} {xs : List PyData} : ixV (.d (.tuple (x :: y :: xs))) (.d (.int 1)) S = .ok (.d y) S := by
  have e : L2.atI (x :: y :: xs) 1 = some y := by
    unfold L2.atI ixN
    rw [if_pos (by decide), if_pos (by simp; omega)]
    rfl
  simp only [ixV, e]
theorem ixT2 {S : Store} {x y z : PyData} {xs : List PyData} : ixV (.d (.tuple (x :: y :: z :: xs))) (.d (.int 2)) S = .ok (.d z) S := by
  have e : L2.atI (x :: y :: z :: xs) 2 = some z := by
    unfold L2.atI ixN
    rw [if_pos (by decide), if_pos (by simp; omega)]
    rfl
  simp only [ixV, e]
theorem ixL0 {S : Store} {x : PyData} {xs : List PyData} : ixV (.d (.list (x :: xs))) (.d (.int 0)) S = .ok (.d x) S := by
  simp [ixV, L2.atI, ixN]
theorem ixL1 {S : Store} {x y : PyData} {xs : List PyData} : ixV (.d (.list (x :: y :: xs))) (.d (.int 1)) S = .ok (.d y) S := by
  have e : L2.atI (x :: y :: xs) 1 = some y := by
    unfold L2.atI ixN
    rw [if_pos (by decide), if_pos (by simp; omega)]
    rfl
  simp only [ixV, e]
theorem ixL2 {S : Store} {x y z : PyData} {xs : List PyData} : ixV (.d (.list (x :: y :: z :: xs))) (.d (.int 2)) S = .ok (.d z) S := by
  have e : L2.atI (x :: y :: z :: xs) 2 = some z := by
    unfold L2.atI ixN
    rw [if_pos (by decide), if_pos (by simp; omega)]
    rfl
  simp only [ixV, e]
theorem cutD_mem {ds : List PyData} {lo hi : Option Int} {d : PyData} (h : d ∈ cutD ds lo hi) : d ∈ ds := List.mem_of_mem_drop (List.mem_of_mem_take h)
theorem cutD_len (ds : List PyData) (lo hi : Option Int) : (cutD ds lo hi).length ≤ ds.length := by
  unfold cutD
  rw [List.length_take, List.length_drop]
  omega
inductive Maze where
  | mk (s : Str) (bs : List Maze)
namespace Maze
instance : Inhabited Maze := ⟨.mk Str.empty []⟩
def sign : Maze → Str
  | .mk s _ => s
def brs : Maze → List Maze
  | .mk _ bs => bs
mutual
def d : Maze → PyData
  | .mk s bs => .tuple [.str s, .tuple (ds bs)]
def ds : List Maze → List PyData
  | [] => []
  | m :: r => d m :: ds r
end
mutual
def size : Maze → Nat
  | .mk _ bs => 1 + sizes bs
def sizes : List Maze → Nat
  | [] => 0
  | m :: r => size m + sizes r
end
mutual
def Wf : Maze → Prop
  | .mk s bs => Sn s ∧ bs.length ≤ 2 ∧ Wfs bs
def Wfs : List Maze → Prop
  | [] => True
  | m :: r => Wf m ∧ Wfs r
end
theorem wfs_all : ∀ {bs : List Maze}, Wfs bs ↔ ∀ m ∈ bs, Wf m
  | [] => by simp [Wfs]
  | m :: r => by rw [Wfs, wfs_all]; simp
theorem Wf.mem {s : Str} {bs : List Maze} (h : Wf (.mk s bs)) {m : Maze} (hm : m ∈ bs) : Wf m := by
  rw [Wf] at h
  exact wfs_all.mp h.2.2 m hm
theorem Wf.sn {s : Str} {bs : List Maze} (h : Wf (.mk s bs)) : Sn s := by rw [Wf] at h; exact h.1
theorem Wf.two {s : Str} {bs : List Maze} (h : Wf (.mk s bs)) : bs.length ≤ 2 := by rw [Wf] at h; exact h.2.1
mutual
def text : Maze → Str
  | .mk s bs => if bs.isEmpty = true then s else s ++ "(" ++ Txt.join ", " (texts bs) ++ ")"
def texts : List Maze → List Str
  | [] => []
  | m :: r => text m :: texts r
end
mutual
def rooms (p : List Int) : Maze → List (List Int × Maze)
  | .mk s bs => (p, .mk s bs) :: roomsL p 1 bs
def roomsL (p : List Int) (k : Int) : List Maze → List (List Int × Maze)
  | [] => []
  | m :: r => rooms (p ++ [k]) m ++ roomsL p (k + 1) r
end
def doorsL (p : List Int) (k : Int) : List Maze → List (List Int × Maze)
  | [] => []
  | m :: r => (p ++ [k], m) :: doorsL p (k + 1) r
theorem rooms_doors (p : List Int) : ∀ (k : Int) (bs : List Maze), roomsL p k bs = (doorsL p k bs).flatMap fun q => rooms q.1 q.2
  | k, [] => by simp [roomsL, doorsL]
  | k, m :: r => by rw [roomsL, rooms_doors p (k + 1) r]; simp [doorsL]
end Maze
end PD
namespace PD
open PySem PySem.Spec PyProof.Rows L2
namespace Maze
mutual
def key : Maze → PyData
  | .mk s bs => .tuple [.int (1 + sizes bs : Nat), .str s, .int bs.length, .tuple (keys bs)]
def keys : List Maze → List PyData
  | [] => []
  | m :: r => key m :: keys r
end
def at? : Maze → List Int → Option Maze
  | m, [] => some m
  | .mk _ bs, k :: p => if 1 ≤ k ∧ k ≤ bs.length then (bs[(k - 1).toNat]?).bind fun m => at? m p else none
termination_by _ p => p.length
def put : Maze → List Int → Maze → Maze
  | _, [], b => b
  | .mk s bs, k :: p, b => .mk s (bs.set (k - 1).toNat (put (bs.getD (k - 1).toNat default) p b))
termination_by _ p _ => p.length
theorem at_nil (m : Maze) : at? m [] = some m := by rw [at?]
theorem at_cons (s : Str) (bs : List Maze) (k : Int) (p : List Int) : at? (.mk s bs) (k :: p) = if 1 ≤ k ∧ k ≤ bs.length then (bs[(k - 1).toNat]?).bind fun m => at? m p else none := by rw [at?]
mutual
theorem rooms_at : ∀ (p : List Int) (m : Maze), ∀ q ∈ rooms p m, ∃ r, q.1 = p ++ r ∧ at? m r = some q.2
  | p, .mk s bs, q, hq => by
    rw [rooms] at hq
    rcases List.mem_cons.mp hq with rfl | hq
    · exact ⟨[], by simp, at_nil _⟩
    · obtain ⟨i, m, r, e1, e2, e3⟩ := roomsL_at p 1 bs q hq
      refine ⟨(((i : Nat) : Int) + 1) :: r, by rw [e1, Int.add_comm]; simp, ?_⟩
      have := (List.getElem?_eq_some_iff.mp e2).1
      rw [at_cons, if_pos (by omega), show (((i : Nat) : Int) + 1 - 1).toNat = i by omega, e2]
      exact e3
theorem roomsL_at : ∀ (p : List Int) (k : Int) (bs : List Maze), ∀ q ∈ roomsL p k bs, ∃ (i : Nat) (m : Maze) (r : List Int), q.1 = p ++ [k + i] ++ r ∧ bs[i]? = some m ∧ at? m r = some q.2
  | p, k, [], q, hq => by rw [roomsL] at hq; cases hq
  | p, k, m :: rest, q, hq => by
    rw [roomsL] at hq
    rcases List.mem_append.mp hq with hq | hq
    · obtain ⟨r, e1, e2⟩ := rooms_at (p ++ [k]) m q hq
      exact ⟨0, m, r, by rw [e1]; simp, rfl, e2⟩
    · obtain ⟨i, m', r, e1, e2, e3⟩ := roomsL_at p (k + 1) rest q hq
      exact ⟨i + 1, m', r, by rw [e1]; simp; omega, by simpa using e2, e3⟩
end
end Maze
end PD
namespace PD
open PySem PySem.Spec PyProof.Rows L2
def k2 (x : Int × Int) : PyData := .tuple [.int x.1, .int x.2]
inductive Deed where
  | stop (w : Str)
  | go (a b : Int)
def Deed.d : Deed → PyData
  | .stop w => .tuple [.str "stop", .str w]
  | .go a b => .tuple [.str "go", .int a, .int b]
def optS : Option Str → PyData
  | none => .none
  | some s => .str s
def optI : Option Int → PyData
  | none => .none
  | some s => .int s
def optN : Option Nat → PyData
  | none => .none
  | some s => .int (s : Nat)
structure Rl where
  sg : Option Str
  dr : Option Int
  dd : Deed
instance : Inhabited Rl := ⟨⟨none, none, .stop "lost"⟩⟩
def Rl.d (r : Rl) : PyData := .tuple [optS r.sg, optI r.dr, r.dd.d]
def stD (rs : List Rl) : PyData := .tuple (rs.map Rl.d)
abbrev Rob := List (List Rl)
def robD (R : Rob) : PyData := .tuple (R.map stD)
def fitS : Option Str → Str → Bool
  | none, _ => true
  | some t, s => decide (t = s)
def fitD : Option Int → Int → Bool
  | none, _ => true
  | some k, q => decide (k = q)
def Rl.fits (s : Str) (q : Int) (r : Rl) : Bool := fitS r.sg s && fitD r.dr q
def ruleOf (rs : List Rl) (s : Str) (q : Int) : Option Nat := rs.findIdx? (Rl.fits s q)
def deedOf (rs : List Rl) : Option Nat → Deed
  | none => .stop "lost"
  | some i => (rs.getD i default).dd
inductive Res where
  | out (k : Int)
  | ever
  | stop (w : Str)
deriving DecidableEq
instance : Inhabited Res := ⟨.ever⟩
def Res.d : Res → PyData
  | .out k => .tuple [.str "out", .int k]
  | .ever => .tuple [.str "ever"]
  | .stop w => .tuple [.str "stop", .str w]
structure Leg where
  door : Int
  st : Int
  rule : Option Nat
  bran : Option Int
  next : Option Int
def Leg.d (l : Leg) : PyData := .tuple [.int l.door, .int l.st, optN l.rule, optI l.bran, optI l.next]
def legStep (R : Rob) (s : Str) (G : List (List Res)) (x : Int × Int) : Leg × (Res ⊕ (Int × Int)) :=
  let rule := ruleOf (R.getD x.2.toNat []) s (1 + (G.length : Nat))
  match deedOf (R.getD x.2.toNat []) rule with
  | .stop w => (⟨x.1, x.2, rule, none, none⟩, .inl (.stop w))
  | .go a b =>
    let out := (x.1 + a) % (1 + (G.length : Nat))
    if out = 0 then (⟨x.1, x.2, rule, none, some b⟩, .inl (.out b)) else
    (⟨x.1, x.2, rule, some (out - 1), some b⟩, match (G.getD (out - 1).toNat []).getD b.toNat default with
      | .out k => .inr (out, k)
      | r => .inl r)
def run (R : Rob) (s : Str) (G : List (List Res)) : Nat → List (Int × Int) → List Leg → Int × Int → List Leg × Res × Option Nat
  | 0, _, ls, _ => (ls, .ever, none)
  | f + 1, seen, ls, x => if x ∈ seen then (ls, .ever, some (seen.idxOf x)) else
    match (legStep R s G x).2 with
    | .inl r => (ls ++ [(legStep R s G x).1], r, none)
    | .inr y => run R s G f (seen ++ [x]) (ls ++ [(legStep R s G x).1]) y
end PD
namespace PD
open PySem PySem.Spec PyProof.Rows L2
def pk (p : List Int) : PyData := .tuple (p.map .int)
structure Std where
  path : List Int
  door : Int
  st : Int
deriving DecidableEq
def Std.d (x : Std) : PyData := .tuple [pk x.path, .int x.door, .int x.st]
def gStep (R : Rob) (s : Str) (q : Int) (x : Std) : Option Nat × (Res ⊕ Std) :=
  let rule := ruleOf (R.getD x.st.toNat []) s q
  (rule, match deedOf (R.getD x.st.toNat []) rule with
  | .stop w => .inl (.stop w)
  | .go a b => if 0 < (x.door + a) % q then .inr ⟨x.path ++ [(x.door + a) % q], 0, b⟩ else match x.path.getLast? with
    | none => .inl (.out b)
    | some k => .inr ⟨x.path.dropLast, k, b⟩)
namespace Maze
mutual
theorem rooms_nodup : ∀ (p : List Int) (m : Maze), ((rooms p m).map (·.1)).Nodup
  | p, .mk s bs => by
    rw [rooms, List.map_cons, List.nodup_cons]
    refine ⟨fun h => ?_, roomsL_nodup p 1 bs⟩
    obtain ⟨q, hq, e⟩ := List.mem_map.mp h
    obtain ⟨i, m, r, e2, _, _⟩ := roomsL_at p 1 bs q hq
    rw [e] at e2
    have := congrArg List.length e2
    simp at this
theorem roomsL_nodup : ∀ (p : List Int) (k : Int) (bs : List Maze), ((roomsL p k bs).map (·.1)).Nodup
  | _, _, [] => by rw [roomsL]; exact List.nodup_nil
  | p, k, b :: bs => by
    rw [roomsL, List.map_append, List.nodup_append]
    refine ⟨rooms_nodup (p ++ [k]) b, roomsL_nodup p (k + 1) bs, fun x hx y hy e => ?_⟩
    subst e
    obtain ⟨q, hq, e1⟩ := List.mem_map.mp hx
    obtain ⟨q2, hq2, e2⟩ := List.mem_map.mp hy
    obtain ⟨r, h1, _⟩ := rooms_at (p ++ [k]) b q hq
    obtain ⟨i, _, r2, h2, _, _⟩ := roomsL_at p (k + 1) bs q2 hq2
    rw [← e1, h1] at e2
    rw [h2, List.append_assoc, List.append_assoc] at e2
    have := List.append_cancel_left e2
    simp at this
    omega
end
end Maze
namespace Maze
structure Bag (m : Maze) (k : Nat) (st fd : List (List Int × Maze)) : Prop where
  out : (fd ++ st.flatMap fun q => rooms q.1 q.2).Perm (rooms [] m)
  cnt : (st.map fun q => q.2.size).sum = k
  all : ∀ q ∈ st, q.1.length + q.2.size ≤ m.size
theorem Bag.start (m : Maze) : Bag m m.size [([], m)] [] := ⟨by simp, by simp, by simp⟩
theorem doors_mem (p : List Int) : ∀ (k : Int) (bs : List Maze), ∀ q ∈ doorsL p k bs, q.1.length = p.length + 1 ∧ q.2 ∈ bs ∧ q.2.size ≤ sizes bs
  | _, [], q, h => by rw [doorsL] at h; cases h
  | k, b :: bs, q, h => by
    rw [doorsL] at h
    rcases List.mem_cons.mp h with rfl | h
    · exact ⟨by simp, List.mem_cons_self, by rw [sizes]; exact Nat.le_add_right _ _⟩
    · obtain ⟨a, b', c⟩ := doors_mem p (k + 1) bs q h
      exact ⟨a, List.mem_cons_of_mem _ b', by rw [sizes]; omega⟩
theorem doors_size (p : List Int) : ∀ (k : Int) (bs : List Maze), ((doorsL p k bs).map fun q => q.2.size).sum = sizes bs
  | _, [] => by rw [doorsL, sizes]; rfl
  | k, b :: bs => by rw [doorsL, sizes, List.map_cons, List.sum_cons, doors_size p (k + 1) bs]
theorem Bag.step {m : Maze} {k : Nat} {st fd : List (List Int × Maze)} {p : List Int} {s : Str} {bs : List Maze} (h : Bag m k (st ++ [(p, .mk s bs)]) fd) : ∃ j, j < k ∧ Bag m j (st ++ doorsL p 1 bs) (fd ++ [(p, .mk s bs)]) := by
  have e := h.cnt
  rw [List.map_append, List.sum_append, List.map_cons, List.map_nil, List.sum_cons, List.sum_nil, size] at e
  refine ⟨(st.map fun q => q.2.size).sum + sizes bs, by omega, ?_, by rw [List.map_append, List.sum_append, doors_size], fun q hq => ?_⟩
  rotate_left
  · rcases List.mem_append.mp hq with z | z
    · exact h.all q (List.mem_append_left _ z)
    · have a := h.all (p, .mk s bs) (List.mem_append_right _ List.mem_cons_self)
      obtain ⟨b, _, c⟩ := doors_mem p 1 bs q z
      rw [size] at a
      simp only at a
      omega
  refine List.Perm.trans ?_ h.out
  rw [List.flatMap_append, List.flatMap_append, List.flatMap_cons, List.flatMap_nil, List.append_nil, rooms, rooms_doors, List.append_assoc]
  refine List.Perm.append_left fd ?_
  exact (List.perm_middle (l₁ := st.flatMap fun q => rooms q.1 q.2) (a := (p, Maze.mk s bs)) (l₂ := (doorsL p 1 bs).flatMap fun q => rooms q.1 q.2)).symm
theorem Bag.fresh {m : Maze} {k : Nat} {st fd : List (List Int × Maze)} {q : List Int × Maze} (h : Bag m k (st ++ [q]) fd) : ∀ x ∈ fd, x.1 ≠ q.1 := fun x hx e => by
  have nd := (h.out.map (·.1)).nodup_iff.mpr (rooms_nodup [] m)
  rw [List.map_append, List.nodup_append] at nd
  refine nd.2.2 x.1 (List.mem_map_of_mem hx) q.1 ?_ e
  obtain ⟨p, mz⟩ := q
  rw [List.flatMap_append, List.map_append]
  refine List.mem_append_right _ ?_
  cases mz with
  | mk s bs =>
    rw [List.flatMap_cons, rooms]
    simp
end Maze
end PD
namespace PD
open PySem PySem.Spec PyProof.Rows L2
mutual
def wt : PyData → Nat
  | .none => 5
  | .bool _ => 5
  | .int i => (toString i).length
  | .str x => 10 * x.length + 2
  | .list xs => 3 + wts xs
  | .tuple xs => 3 + wts xs
  | .dict kvs => 3 + wtk kvs
def wts : List PyData → Nat
  | [] => 0
  | x :: xs => wt x + 2 + wts xs
def wtk : List (PyData × PyData) → Nat
  | [] => 0
  | (k, v) :: r => wt k + wt v + 4 + wtk r
end
mutual
def fine : PyData → Prop
  | .none => True
  | .bool _ => True
  | .int i => i.natAbs.log2 < 1920
  | .str x => ∀ c ∈ x.cps.toList, c < 1114112
  | .list xs => fines xs
  | .tuple xs => fines xs
  | .dict kvs => finek kvs
def fines : List PyData → Prop
  | [] => True
  | x :: xs => fine x ∧ fines xs
def finek : List (PyData × PyData) → Prop
  | [] => True
  | (k, v) :: r => fine k ∧ fine v ∧ finek r
end
mutual
theorem fine_ok : ∀ {d : PyData}, fine d → d.showable = true
  | .none, _ => rfl
  | .bool _, _ => rfl
  | .int i, h => by simpa [PyData.showable, fine] using h
  | .str _, _ => rfl
  | .list xs, h => fines_ok (ds := xs) h
  | .tuple xs, h => fines_ok (ds := xs) h
  | .dict kvs, h => finek_ok (ds := kvs) h
theorem fines_ok : ∀ {ds : List PyData}, fines ds → PyData.showableAll ds = true
  | [], _ => rfl
  | x :: xs, h => by
    simp only [PyData.showableAll, fine_ok h.1, fines_ok h.2, Bool.and_self]
theorem finek_ok : ∀ {ds : List (PyData × PyData)}, finek ds → PyData.showableKv ds = true
  | [], _ => rfl
  | (k, v) :: r, h => by
    simp only [PyData.showableKv, fine_ok h.1, fine_ok h.2.1, finek_ok h.2.2, Bool.and_self]
end
def sumL (ts : List Str) : Nat := (ts.map fun t : Str => t.length + 2).sum
theorem join_sum : ∀ (ts : List Str), (Str.join ", " ts).length ≤ sumL ts
  | [] => Nat.zero_le _
  | [t] => by
    show t.length ≤ _
    simp [sumL]
  | t :: u :: r => by
    have ih := join_sum (u :: r)
    show (t ++ ", " ++ Str.join ", " (u :: r)).length ≤ _
    have l0 : (", " : Str).length = 2 := rfl
    rw [Str.length_append, Str.length_append, l0]
    have : sumL (t :: u :: r) = t.length + 2 + sumL (u :: r) := by simp [sumL]
    omega
theorem textFrom_le : ∀ (ts : List Str) (k : Nat) (acc : Str), (textFrom k acc ts).length ≤ acc.length + sumL ts
  | [], k, acc => Nat.le_refl _
  | t :: r, k, acc => by
    have h := textFrom_le r (k + 1) (acc ++ (if k > 0 then ", " else "" : String) ++ t)
    have e : sumL (t :: r) = t.length + 2 + sumL r := by simp [sumL]
    show (textFrom (k + 1) (acc ++ (if k > 0 then ", " else "" : String) ++ t) r).length ≤ _
    have l : (Str.ofString (if k > 0 then ", " else "" : String)).length ≤ 2 := by
      by_cases q : k > 0
      · rw [if_pos q]; decide
      · rw [if_neg q]; decide
    rw [Str.length_append, Str.length_append] at h
    omega
theorem listText_len (ts : List Str) : (listText ts).length ≤ 3 + sumL ts := by
  have := textFrom_le ts 0 "["
  unfold listText
  have l1 : ("[" : Str).length = 1 := rfl
  have l2 : ("]" : Str).length = 1 := rfl
  rw [Str.length_append, l2]
  omega
theorem tupleText_len (ts : List Str) : (tupleText ts).length ≤ 3 + sumL ts := by
  have := join_sum ts
  show (("(" : Str) ++ Str.join ", " ts ++ (if ts.length == 1 then ",)" else ")" : String)).length ≤ _
  have l1 : ("(" : Str).length = 1 := rfl
  have l2 : (Str.ofString (if ts.length == 1 then ",)" else ")" : String)).length ≤ 2 := by
    by_cases q : (ts.length == 1) = true
    · rw [if_pos q]; decide
    · rw [if_neg q]; decide
  rw [Str.length_append, Str.length_append, l1]
  omega
theorem dictText_len (ts : List Str) : (dictText ts).length ≤ 3 + sumL ts := by
  have := join_sum ts
  show (("{" : Str) ++ Str.join ", " ts ++ "}").length ≤ _
  have l1 : ("{" : Str).length = 1 := rfl
  have l2 : ("}" : Str).length = 1 := rfl
  rw [Str.length_append, Str.length_append, l1, l2]
  omega
mutual
theorem shown_len : ∀ {d : PyData}, fine d → d.shown.length ≤ wt d
  | .none, _ => by decide
  | .bool b, _ => by cases b <;> decide
  | .int i, _ => by
    show (Str.ofString (toString i)).length ≤ (toString i).length
    rw [PySem.ofString_length]
    exact Nat.le_refl _
  | .str x, h => Tx.repr (n := x.length) ⟨Nat.le_refl _, h⟩
  | .list xs, h => by
    have := shownAll_len (ds := xs) h
    have l := listText_len (PyData.shownAll xs)
    show (listText (PyData.shownAll xs)).length ≤ 3 + wts xs
    omega
  | .tuple xs, h => by
    have := shownAll_len (ds := xs) h
    have l := tupleText_len (PyData.shownAll xs)
    show (tupleText (PyData.shownAll xs)).length ≤ 3 + wts xs
    omega
  | .dict kvs, h => by
    have := shownKv_len (ds := kvs) h
    have l := dictText_len (PyData.shownKv kvs)
    show (dictText (PyData.shownKv kvs)).length ≤ 3 + wtk kvs
    omega
theorem shownAll_len : ∀ {ds : List PyData}, fines ds → sumL (PyData.shownAll ds) ≤ wts ds
  | [], _ => Nat.zero_le _
  | x :: xs, h => by
    have a := shown_len (d := x) h.1
    have b := shownAll_len (ds := xs) h.2
    have : sumL (PyData.shownAll (x :: xs)) = x.shown.length + 2 + sumL (PyData.shownAll xs) := by simp [sumL, PyData.shownAll]
    simp only [wts]
    omega
theorem shownKv_len : ∀ {ds : List (PyData × PyData)}, finek ds → sumL (PyData.shownKv ds) ≤ wtk ds
  | [], _ => Nat.zero_le _
  | (k, v) :: r, h => by
    have a := shown_len (d := k) h.1
    have b := shown_len (d := v) h.2.1
    have c := shownKv_len (ds := r) h.2.2
    have l0 : (": " : Str).length = 2 := rfl
    have : sumL (PyData.shownKv ((k, v) :: r)) = (k.shown ++ ": " ++ v.shown).length + 2 + sumL (PyData.shownKv r) := by simp [sumL, PyData.shownKv]
    rw [this, Str.length_append, Str.length_append, l0]
    simp only [wtk]
    omega
end
structure Wd (k n : Nat) (d : PyData) : Prop where
  ok : fine d
  dp : d.depth ≤ k
  ln : wt d ≤ n
structure Wds (k n : Nat) (ds : List PyData) : Prop where
  ok : fines ds
  dp : PyData.depthAll ds ≤ k
  ln : wts ds ≤ n
theorem Wd.mono {k k' n n' : Nat} {d : PyData} (h : Wd k n d) (a : k ≤ k') (b : n ≤ n') : Wd k' n' d := ⟨h.ok, Nat.le_trans h.dp a, Nat.le_trans h.ln b⟩
theorem Wds.mono {k k' n n' : Nat} {d : List PyData} (h : Wds k n d) (a : k ≤ k') (b : n ≤ n') : Wds k' n' d := ⟨h.ok, Nat.le_trans h.dp a, Nat.le_trans h.ln b⟩
theorem Wd.reprOk {k n : Nat} {d : PyData} (h : Wd k n d) (hk : k ≤ 180 := by omega) (hn : n ≤ 16777216 := by omega) : reprOkD d = true := by
  have sz : sizeLine = 16777216 := sizeLine_eq
  have := shown_len h.ok
  have h1 := h.ln
  have h2 := h.dp
  simp only [reprOkD, fine_ok h.ok, Bool.true_and, Bool.and_eq_true, decide_eq_true_eq]
  exact ⟨by omega, by omega⟩
theorem Wd.repr {k n : Nat} {d : PyData} {S : Store} (h : Wd k n d) (hk : k ≤ 180 := by omega) (hn : n ≤ 16777216 := by omega) : reprVD [.d d] S = .ok (.d (.str d.shown)) S := by
  show (if reprOkD d = true then Rs.ok (SV.d (.str d.shown)) S else .bad) = _
  rw [if_pos (h.reprOk hk hn)]
section
variable {k n m : Nat} {d e : PyData} {ds es : List PyData}
theorem Wd.none : Wd k (n + 5) .none := ⟨trivial, Nat.zero_le _, by simp only [wt]; omega⟩
theorem Wd.bool {b : Bool} : Wd k (n + 5) (.bool b) := ⟨trivial, Nat.zero_le _, by simp only [wt]; omega⟩
theorem Wd.int {i : Int} (h : i.natAbs < 10 ^ m) (l : m + 1 ≤ n := by decide) (hm : 0 < m := by decide) (hk : m ≤ 400 := by decide) : Wd k n (.int i) :=
  ⟨log2_small h hk, Nat.zero_le _, Nat.le_trans (int_text_length_le10 hm h) l⟩
theorem Wd.str {s : Str} (h : Tx m s) (l : 10 * m + 2 ≤ n := by omega) : Wd k n (.str s) := ⟨h.2, Nat.zero_le _, by have := h.1; simp only [wt]; omega⟩
theorem Wd.tup (h : Wds k n ds) : Wd (k + 1) (n + 3) (.tuple ds) := ⟨h.ok, by have := h.dp; simp only [PyData.depth]; omega, by have := h.ln; simp only [wt]; omega⟩
theorem Wd.lst (h : Wds k n ds) : Wd (k + 1) (n + 3) (.list ds) := ⟨h.ok, by have := h.dp; simp only [PyData.depth]; omega, by have := h.ln; simp only [wt]; omega⟩
theorem Wd.dict0 : Wd (k + 1) (n + 3) (.dict []) := ⟨trivial, by simp [PyData.depth, PyData.depthKv], by simp only [wt, wtk]; omega⟩
theorem Wds.nil : Wds k n [] := ⟨trivial, by simp [PyData.depthAll], Nat.zero_le _⟩
theorem Wds.cons (h : Wd k n d) (t : Wds k m ds) : Wds k (n + m + 2) (d :: ds) := by
  have a := h.dp
  have b := h.ln
  have c := t.dp
  have e := t.ln
  exact ⟨⟨h.ok, t.ok⟩, by simp only [PyData.depthAll]; omega, by simp only [wts]; omega⟩
theorem Wds.head (h : Wds k n (d :: ds)) : Wd k n d := by
  have c := h.dp
  have e := h.ln
  simp only [PyData.depthAll] at c
  simp only [wts] at e
  exact ⟨h.ok.1, by omega, by omega⟩
theorem Wds.tail (h : Wds k n (d :: ds)) : Wds k n ds := by
  have c := h.dp
  have e := h.ln
  simp only [PyData.depthAll] at c
  simp only [wts] at e
  exact ⟨h.ok.2, by omega, by omega⟩
theorem Wds.mem : ∀ {ds : List PyData}, Wds k n ds → d ∈ ds → Wd k n d
  | x :: xs, h, m => by
    rcases List.mem_cons.mp m with rfl | m
    · exact h.head
    · exact Wds.mem h.tail m
theorem wts_app : ∀ (ds es : List PyData), wts (ds ++ es) = wts ds + wts es
  | [], es => by simp [wts]
  | x :: xs, es => by simp only [List.cons_append, wts, wts_app xs es]; omega
theorem fines_app : ∀ {ds es : List PyData}, fines (ds ++ es) ↔ fines ds ∧ fines es
  | [], es => by simp [fines]
  | x :: xs, es => by simp only [List.cons_append, fines, fines_app (ds := xs) (es := es), and_assoc]
theorem depthAll_app : ∀ (ds es : List PyData), PyData.depthAll (ds ++ es) = max (PyData.depthAll ds) (PyData.depthAll es)
  | [], es => by simp [PyData.depthAll]
  | x :: xs, es => by simp only [List.cons_append, PyData.depthAll, depthAll_app xs es]; omega
theorem Wds.app (h : Wds k n ds) (t : Wds k m es) : Wds k (n + m) (ds ++ es) := by
  have a := h.dp
  have b := h.ln
  have c := t.dp
  have e := t.ln
  exact ⟨fines_app.mpr ⟨h.ok, t.ok⟩, by rw [depthAll_app]; omega, by rw [wts_app]; omega⟩
theorem Wds.left (h : Wds k n (ds ++ es)) : Wds k n ds := by
  have a := h.dp
  have b := h.ln
  rw [depthAll_app] at a
  rw [wts_app] at b
  exact ⟨(fines_app.mp h.ok).1, by omega, by omega⟩
theorem Wds.right (h : Wds k n (ds ++ es)) : Wds k n es := by
  have a := h.dp
  have b := h.ln
  rw [depthAll_app] at a
  rw [wts_app] at b
  exact ⟨(fines_app.mp h.ok).2, by omega, by omega⟩
theorem Wds.take (h : Wds k n ds) (i : Nat) : Wds k n (ds.take i) := Wds.left (es := ds.drop i) (by rw [List.take_append_drop]; exact h)
theorem Wds.drop (h : Wds k n ds) (i : Nat) : Wds k n (ds.drop i) := Wds.right (ds := ds.take i) (by rw [List.take_append_drop]; exact h)
theorem Wds.cut (h : Wds k n ds) (i j : Option Int) : Wds k n (cutD ds i j) := by
  unfold cutD
  exact (h.drop _).take _
theorem Wds.len (h : Wds k n ds) : 2 * ds.length ≤ n := by
  have : ∀ ds : List PyData, 2 * ds.length ≤ wts ds := fun ds => by
    induction ds with
    | nil => simp [wts]
    | cons x xs ih => simp only [List.length_cons, wts]; omega
  have := this ds
  have := h.ln
  omega
theorem Wd.items (h : Wd k n (.tuple ds)) : Wds k n ds := by
  have a := h.dp
  have b := h.ln
  simp only [PyData.depth] at a
  simp only [wt] at b
  exact ⟨h.ok, by omega, by omega⟩
theorem Wd.tx {s : Str} (h : Wd k n (.str s)) : Tx n s := ⟨by have := h.ln; simp only [wt] at this; omega, h.ok⟩
theorem Wds.of (h : ∀ d ∈ ds, Wd k m d) : Wds k (ds.length * (m + 2)) ds := by
  induction ds with
  | nil => exact Wds.nil
  | cons x xs ih =>
    have a := h x List.mem_cons_self
    have b := ih fun d hd => h d (List.mem_cons_of_mem _ hd)
    rw [List.length_cons, Nat.succ_mul]
    exact (Wds.cons a b).mono (Nat.le_refl _) (by omega)
theorem Wd.t1 {d1 : PyData} {a : Nat} (h1 : Wd k a d1) (l : a + 5 ≤ n := by omega) : Wd (k + 1) n (.tuple [d1]) :=
  (Wd.tup (Wds.cons h1 (Wds.nil (n := 0)))).mono (Nat.le_refl _) (by omega)
theorem Wd.t2 {d1 d2 : PyData} {a b : Nat} (h1 : Wd k a d1) (h2 : Wd k b d2) (l : a + b + 7 ≤ n := by omega) : Wd (k + 1) n (.tuple [d1, d2]) :=
  (Wd.tup (Wds.cons h1 (Wds.cons h2 (Wds.nil (n := 0))))).mono (Nat.le_refl _) (by omega)
theorem Wd.t3 {d1 d2 d3 : PyData} {a b c : Nat} (h1 : Wd k a d1) (h2 : Wd k b d2) (h3 : Wd k c d3) (l : a + b + c + 9 ≤ n := by omega) : Wd (k + 1) n (.tuple [d1, d2, d3]) :=
  (Wd.tup (Wds.cons h1 (Wds.cons h2 (Wds.cons h3 (Wds.nil (n := 0)))))).mono (Nat.le_refl _) (by omega)
theorem Wd.t4 {d1 d2 d3 d4 : PyData} {a b c e : Nat} (h1 : Wd k a d1) (h2 : Wd k b d2) (h3 : Wd k c d3) (h4 : Wd k e d4) (l : a + b + c + e + 11 ≤ n := by omega) : Wd (k + 1) n (.tuple [d1, d2, d3, d4]) :=
  (Wd.tup (Wds.cons h1 (Wds.cons h2 (Wds.cons h3 (Wds.cons h4 (Wds.nil (n := 0))))))).mono (Nat.le_refl _) (by omega)
theorem Wds.map {α : Type} {f : α → PyData} {xs : List α} {a : Nat} (h : ∀ x ∈ xs, Wd k a (f x)) (j : Nat) (hl : xs.length ≤ j) (l : j * (a + 2) ≤ n := by omega) : Wds k n (xs.map f) := by
  have := Wds.of (ds := xs.map f) (k := k) (m := a) fun d hd => by
    obtain ⟨r, hr, rfl⟩ := List.mem_map.mp hd
    exact h r hr
  rw [List.length_map] at this
  exact this.mono (Nat.le_refl _) (Nat.le_trans (Nat.mul_le_mul_right _ hl) l)
theorem Wd.tmap {α : Type} {f : α → PyData} {xs : List α} {a : Nat} (h : ∀ x ∈ xs, Wd k a (f x)) (j : Nat) (hl : xs.length ≤ j) (l : j * (a + 2) + 3 ≤ n := by omega) : Wd (k + 1) n (.tuple (xs.map f)) :=
  (Wd.tup (Wds.map h j hl (Nat.le_refl _))).mono (Nat.le_refl _) l
theorem Wd.lit {s : String} (l : 10 * s.length + 2 ≤ n := by decide) : Wd k n (.str (Str.ofString s)) := Wd.str (Tx.of s) l
theorem Wd.small {i : Int} (h : i.natAbs < 1000) (l : 4 ≤ n := by omega) : Wd k n (.int i) := (Wd.int (k := k) (n := 4) (m := 3) h).mono (Nat.le_refl _) l
end
end PD
namespace PD
open PySem PySem.Spec PyProof.Rows L2
theorem ssat_search {α : Type} {enc : α → SV} {g : GM} {m : SM} {p : Po} {S : Store} (s : α → Option SV) (I : Fr → Prop) : ∀ {ys : List α} {fr : Fr},
    (∀ y ∈ ys, ∀ fr, I fr → ∃ fr1, g (enc y) fr = some fr1 ∧ (m fr1 S).sat ⟨fun fr S' => S' = S ∧ I fr ∧ s y = none, no2, fun fr S' => S' = S ∧ I fr ∧ s y = none, fun v S' => S' = S ∧ s y = some v, NoX⟩) →
    I fr → (ys.findSome? s = none → ∀ fr, I fr → p.nx fr S) → (∀ v, ys.findSome? s = some v → p.rt v S) → (forF g m (ys.map enc) fr S).sat p
  | [], fr, _, hi, h1, _ => ssat_for0 (h1 rfl fr hi)
  | y :: ys, fr, h, hi, h1, h2 => by
    obtain ⟨fr1, e, hs⟩ := h y List.mem_cons_self fr hi
    have go : ∀ fr2 S2, (S2 = S ∧ I fr2 ∧ s y = none) → (forF g m (ys.map enc) fr2 S2).sat p := fun fr2 S2 ⟨e, i2, hb⟩ => by
      subst e
      exact ssat_search s I (fun z hz => h z (List.mem_cons_of_mem _ hz)) i2 (fun q => h1 (by rw [List.findSome?_cons, hb]; exact q)) fun z q => h2 z (by rw [List.findSome?_cons, hb]; exact q)
    refine ssat_for1 e (hs.mono go (fun _ _ z => z.elim) go (fun v S2 ⟨e, hb⟩ => ?_) fun _ _ z => z.elim)
    subst e
    exact h2 v (by rw [List.findSome?_cons, hb])
theorem ssat_each {α : Type} {enc : α → SV} {g : GM} {m : SM} {p : Po} {ys : List α} {fr : Fr} {S : Store} (I : List α → Fr → Store → Prop) (h0 : I [] fr S)
    (hs : ∀ done y rest, ys = done ++ y :: rest → ∀ fr S, I done fr S → ∃ fr1, g (enc y) fr = some fr1 ∧ (m fr1 S).sat ⟨I (done ++ [y]), p.nx, I (done ++ [y]), p.rt, p.ex⟩)
    (hf : ∀ fr S, I ys fr S → p.nx fr S) : (forF g m (ys.map enc) fr S).sat p := by
  refine ssat_for (fun k => I (ys.take k)) 0 (by simpa using h0) (fun k x fr S e h => ?_) fun fr S h => hf fr S ?_
  · rw [Nat.zero_add] at h ⊢
    rw [List.getElem?_map] at e
    obtain ⟨y, hy, rfl⟩ := Option.map_eq_some_iff.mp e
    obtain ⟨hl, rfl⟩ := List.getElem?_eq_some_iff.mp hy
    have := hs (ys.take k) ys[k] (ys.drop (k + 1)) (by rw [← List.drop_eq_getElem_cons hl, List.take_append_drop]) fr S h
    rw [List.take_succ_eq_append_getElem hl]
    exact this
  · rw [List.length_map, Nat.zero_add, List.take_length] at h
    exact h
theorem inV_tup {neg : Bool} {x : PyData} {ds : List PyData} {S : Store} : PD.inV neg (.d x) (.d (.tuple ds)) S = if inOk x ds = true then .ok (.d (.bool (neg ^^ ds.any fun y => PyData.eqv y x))) S else .bad := by cases x <;> rfl
theorem inV_lst {neg : Bool} {x : PyData} {ds : List PyData} {S : Store} : PD.inV neg (.d x) (.d (.list ds)) S = if inOk x ds = true then .ok (.d (.bool (neg ^^ ds.any fun y => PyData.eqv y x))) S else .bad := by cases x <;> rfl
inductive Lits : List PyData → Prop
  | nil : Lits []
  | str {s : String} {ds : List PyData} : Lits ds → Lits (.str (Str.ofString s) :: ds)
  | int {i : Int} {ds : List PyData} : Lits ds → Lits (.int i :: ds)
  | non {ds : List PyData} : Lits ds → Lits (.none :: ds)
theorem Lits.ok : ∀ {ds : List PyData}, Lits ds → PyData.canLayAll0 ds = true ∧ PyData.depthAll ds = 0
  | _, .nil => ⟨rfl, rfl⟩
  | _, .str h => by
    obtain ⟨a, b⟩ := h.ok
    exact ⟨by rw [PyData.canLayAll0, a, Tx.strOk (Tx.of _)]; rfl, by rw [PyData.depthAll, b]; rfl⟩
  | _, .int h => by
    obtain ⟨a, b⟩ := h.ok
    exact ⟨by rw [PyData.canLayAll0, a]; rfl, by rw [PyData.depthAll, b]; rfl⟩
  | _, .non h => by
    obtain ⟨a, b⟩ := h.ok
    exact ⟨by rw [PyData.canLayAll0, a]; rfl, by rw [PyData.depthAll, b]; rfl⟩
theorem ixT3 {S : Store} {x y z w : PyData} {xs : List PyData} : ixV (.d (.tuple (x :: y :: z :: w :: xs))) (.d (.int 3)) S = .ok (.d w) S := by
  have e : L2.atI (x :: y :: z :: w :: xs) 3 = some w := by
    unfold L2.atI ixN
    rw [if_pos (by decide), if_pos (by simp only [List.length_cons]; omega)]
    rfl
  simp only [ixV, e]
theorem ix_get {ds : List PyData} {i : Int} {S : Store} (h0 : 0 ≤ i) (h1 : i < ds.length) : ixV (.d (.tuple ds)) (.d (.int i)) S = .ok (.d (ds[i.toNat]'(by omega))) S := by
  have hi : i.toNat < ds.length := by omega
  have e : L2.atI ds i = some ds[i.toNat] := by
    unfold L2.atI ixN
    rw [if_pos h0, if_pos h1]
    exact List.getElem?_eq_getElem hi
  simp only [ixV, e]
theorem cutD_tail {x : PyData} {xs : List PyData} : cutD (x :: xs) (some 1) none = xs := by
  unfold cutD
  simp [HT.sIx]
theorem Wd.canStr {k n : Nat} {s : Str} (h : Wd k n (.str s)) : (PyData.str s).canLay0 = true := Tx.strOk (n := s.length) ⟨Nat.le_refl _, h.ok⟩
theorem eqv_str {a b : Str} : PyData.eqv (.str a) (.str b) = decide (b = a) := by
  simp only [PyData.eqv]
  rw [Bool.eq_iff_iff, beq_iff_eq, decide_eq_true_iff]
  exact eq_comm
theorem eqv_int {a b : Int} : PyData.eqv (.int a) (.int b) = decide (b = a) := by
  simp only [PyData.eqv]
  rw [Bool.eq_iff_iff, beq_iff_eq, decide_eq_true_iff]
  exact eq_comm
theorem eqV_nilT {neg : Bool} {ds : List PyData} {S : Store} : PD.eqV neg (.d (.tuple ds)) (.d (.tuple [])) S = .ok (.d (.bool (neg ^^ ds.isEmpty))) S := by
  have e : eqOk (.tuple ds) (.tuple []) = true := by
    cases ds with
    | nil => rfl
    | cons d ds => simp [eqOk, lstDiff]
  show (if eqOk (.tuple ds) (.tuple []) = true then Rs.ok (SV.d (.bool (neg ^^ PyData.eqv (.tuple ds) (.tuple [])))) S else .bad) = _
  rw [if_pos e]
  cases ds <;> rfl
end PD
namespace PD
open PySem PySem.Spec PyProof.Rows L2
def rv (q : List Int × Maze) : List Int × PyData := (q.1, .tuple [.str q.2.sign, .int (1 + (q.2.brs.length : Nat))])
def wStep (m : Maze) (R : Rob) (x : Std) : Option Nat × (Res ⊕ Std) := match Maze.at? m x.path with
  | some r => gStep R r.sign (1 + (r.brs.length : Nat)) x
  | none => (none, .inl .ever)
structure Std.In (m : Maze) (R : Rob) (x : Std) : Prop where
  room : ∃ r, Maze.at? m x.path = some r ∧ 0 ≤ x.door ∧ x.door < 1 + (r.brs.length : Nat)
  s0 : 0 ≤ x.st
  s1 : x.st < R.length
def yes {α : Type} (x : α) : α × PyData := (x, .bool true)
end PD
namespace PD
open PySem PySem.Spec PyProof.Rows L2
inductive Way (m : Maze) (R : Rob) : Std → List Std → (Res ⊕ Std) → Prop
  | one {x : Std} {e : Res ⊕ Std} : (wStep m R x).2 = e → Way m R x [x] e
  | cons {x y : Std} {l : List Std} {e : Res ⊕ Std} : (wStep m R x).2 = .inr y → Way m R y l e → Way m R x (x :: l) e
section
variable {m : Maze} {R : Rob}
theorem Way.app {x y : Std} {l l' : List Std} {e : Res ⊕ Std} (h : Way m R x l (.inr y)) (k : Way m R y l' e) : Way m R x (l ++ l') e := by
  generalize hz : (Sum.inr y : Res ⊕ Std) = z at h
  induction h with
  | one h => subst hz; exact .cons h k
  | cons h _ ih => exact .cons h (ih hz)
theorem Way.pos {x : Std} {l : List Std} {e : Res ⊕ Std} (h : Way m R x l e) : ∃ t, l = x :: t := by
  cases h with
  | one => exact ⟨[], rfl⟩
  | cons => exact ⟨_, rfl⟩
end
def exitOf (p : List Int) (k : Int) : Res ⊕ Std := match p.getLast? with
  | none => .inl (.out k)
  | some d => .inr ⟨p.dropLast, d, k⟩
def Ends (m : Maze) (R : Rob) (p : List Int) (x : Std) : Res → Prop
  | .out k => ∃ l, Way m R x l (exitOf p k) ∧ ∀ y ∈ l, p <+: y.path
  | .stop w => ∃ l, Way m R x l (.inl (.stop w)) ∧ ∀ y ∈ l, p <+: y.path
  | .ever => ∀ n, ∃ l y, n ≤ l.length ∧ Way m R x l (.inr y) ∧ ∀ y ∈ l, p <+: y.path
end PD
namespace PD
open PySem PySem.Spec PyProof.Rows L2
theorem sat_each {α : Type} {enc : α → PyData} {g : GM} {te : EM} {vs : List Nat} {fr : Fr} {S : Store} {ys : List α} {Q : List PyData → Store → Prop} {X : Exc → Store → Prop} (I : List α → Store → List PyData → Prop) (h0 : I [] S [])
    (hs : ∀ done y rest S acc, ys = done ++ y :: rest → acc.length = done.length → I done S acc → ∃ fr1, g (.d (enc y)) (wipeF fr vs) = some fr1 ∧ (te fr1 S).sat (fun v S2 => ∃ d, v = .d d ∧ I (done ++ [y]) S2 (acc ++ [d])) NoX)
    (hl : ys.length ≤ 1000000) (hf : ∀ S acc, acc.length = ys.length → I ys S acc → Q acc S) : (compF g bYes te vs fr ((ys.map enc).map .d) S []).sat Q X := by
  have sz : sizeLine = 16777216 := sizeLine_eq
  refine sat_comp (fun k S acc => acc.length = k ∧ I (ys.take k) S acc) 0 ⟨rfl, by simpa using h0⟩ (fun k x S acc e h => ?_) fun S acc h => ?_
  · rw [Nat.zero_add] at h ⊢
    obtain ⟨al, hi⟩ := h
    rw [List.getElem?_map, List.getElem?_map] at e
    have hk : k < ys.length := by
      rcases Nat.lt_or_ge k ys.length with q | q
      · exact q
      · rw [List.getElem?_eq_none q] at e; cases e
    rw [List.getElem?_eq_getElem hk] at e
    cases e
    obtain ⟨fr1, e1, h1⟩ := hs (ys.take k) ys[k] (ys.drop (k + 1)) S acc (by rw [← List.drop_eq_getElem_cons hk, List.take_append_drop]) (by rw [List.length_take]; omega) hi
    refine ⟨fr1, e1, ?_⟩
    show (Rs.ok true S).sat _ NoX
    rw [sat_ok, if_pos rfl]
    refine h1.mono (fun v S2 ⟨d, ev, h2⟩ => ⟨d, ev, by omega, by simp [al], ?_⟩) fun _ _ z => z
    rw [List.take_succ, List.getElem?_eq_getElem hk]
    exact h2
  · rw [Nat.zero_add, List.length_map, List.length_map] at h
    refine hf S acc h.1 ?_
    have := h.2
    rwa [List.take_length] at this
theorem rng_nat (n : Nat) : rngL 0 (n : Nat) = ((List.range n).map fun i : Nat => PyData.int (i : Nat)).map .d := by
  unfold rngL
  rw [List.map_map]
  simp only [Int.sub_zero, Int.toNat_natCast, Int.zero_add]
  rfl
end PD
namespace PD
open PySem PySem.Spec PyProof.Rows L2
inductive Leaf where
  | is (R : Rob) (w : Str)
  | meets (R : Rob) (s : Str)
  | uses (R : Rob) (q : Nat) (k : Nat)
  | sees (R : Rob)
  | count (s : Str) (by_ : Int) (left : Int)
  | deep (n : Int)
def Leaf.d : Leaf → PyData
  | .is R w => .tuple [.str "is", robD R, .str w]
  | .meets R s => .tuple [.str "meets", robD R, .str s]
  | .uses R q k => .tuple [.str "uses", robD R, .int (q : Nat), .int (k : Nat)]
  | .sees R => .tuple [.str "sees", robD R]
  | .count s b l => .tuple [.str "count", .str s, .int b, .int l]
  | .deep n => .tuple [.str "deep", .int n]
inductive Say where
  | leaf (l : Leaf)
  | no (a : Say)
  | con (a b : Say)
  | dis (a b : Say)
def Say.d : Say → PyData
  | .leaf l => l.d
  | .no a => .tuple [.str "not", a.d]
  | .con a b => .tuple [.str "and", a.d, b.d]
  | .dis a b => .tuple [.str "or", a.d, b.d]
def Say.leaves : Say → List Leaf
  | .leaf l => [l]
  | .no a => a.leaves
  | .con a b => a.leaves ++ b.leaves
  | .dis a b => a.leaves ++ b.leaves
def Say.deep : Say → Nat
  | .leaf _ => 1
  | .no a => a.deep + 1
  | .con a b => max a.deep b.deep + 1
  | .dis a b => max a.deep b.deep + 1
def Say.nodes : Say → Nat
  | .leaf _ => 0
  | .no a => a.nodes + 1
  | .con a b => a.nodes + b.nodes + 1
  | .dis a b => a.nodes + b.nodes + 1
def Leaf.In (ts ws : List Str) (Rs : List Rob) : Leaf → Prop
  | .is R w => R ∈ Rs ∧ (w ∈ ws ∨ w = "lost" ∨ w = "out" ∨ w = "ever")
  | .meets R s => R ∈ Rs ∧ s ∈ ts
  | .uses R q k => R ∈ Rs ∧ q < R.length ∧ k < (R.getD q []).length
  | .sees R => R ∈ Rs
  | .count s b l => s ∈ ts ∧ 1 ≤ b ∧ b ≤ 4 ∧ 0 ≤ l ∧ l < b
  | .deep n => 1 ≤ n ∧ n ≤ 6
structure Say.In (ts ws : List Str) (Rs : List Rob) (a : Say) : Prop where
  lf : ∀ l ∈ a.leaves, l.In ts ws Rs
  few : a.leaves.length ≤ 3
  dp : a.deep ≤ 4
  nd : a.nodes ≤ 5
theorem Say.pos : ∀ a : Say, 1 ≤ a.leaves.length
  | .leaf _ => by simp [Say.leaves]
  | .no a => pos a
  | .con a b => by have := pos a; simp only [Say.leaves, List.length_append]; omega
  | .dis a b => by have := pos a; simp only [Say.leaves, List.length_append]; omega
end PD
set_option maxHeartbeats 4000000
namespace PD
open PySem PySem.Spec PyProof.Rows L2
def mulW : SV → SV → Store → Rs SV
  | .d (.tuple xs), .d (.int k), S => if (decide (xs.length ≤ 1000) && decide (-1000 ≤ k) && decide (k ≤ 1000)) = true then .ok (.d (.tuple (List.replicate k.toNat xs).flatten)) S else .bad
  | x, y, S => mulV x y S
end PD
namespace PD
open PySem PySem.Spec PyProof.Rows L2
namespace Maze
def mp : Maze → List Int → List Int
  | _, [] => []
  | .mk _ bs, k :: p => (1 + (bs.length : Nat) - k) :: mp (bs.getD (k - 1).toNat default) p
termination_by _ p => p.length
end Maze
end PD
namespace PD
open PySem PySem.Spec PyProof.Rows L2 RZ
section
variable {prog : Program} {w : World} {A : Around} {E : Value → Shared → Prop} {s : Shared}
variable {S z TI TO i1 i2 l1 l2 : Addr} {xs ys : Array Value} {h0 : Heap}
structure ZG (S : Addr) (xs ys : Array Value) (as : List Addr) (h : Heap) : Prop where
  rise : as.Pairwise (· < ·)
  above : ∀ t ∈ as, S < t
  pairs : ∀ (j : Nat) (t : Addr), as[j]? = some t → ∃ x y, xs[j]? = some x ∧ ys[j]? = some y ∧ IsPair h t x y
structure ZSt (S z TI TO i1 i2 l1 l2 : Addr) (xs ys : Array Value) (h0 : Heap) (i : Nat) (as : List Addr) (h : Heap) : Prop where
  ti : IsPair h TI (.ref i1) (.ref i2)
  it1 : h.IsTupleIter i1 l1 i
  it2 : h.IsTupleIter i2 l2 i
  tl1 : h.IsTuple l1 xs
  tl2 : h.IsTuple l2 ys
  len : as.length = i
  g : ZG S xs ys as h
  out : (as = [] ∧ IsZip h z TI TO .none ∧ ∃ a b, IsPair h TO a b) ∨ (∃ T f, T ∈ as ∧ IsZipHeld h z TI TO T f)
  base : ∀ b o, b ≠ S → b ≠ z → b ≠ TO → b ≠ i1 → b ≠ i2 → h0.get? b = some o → h.get? b = some o
structure ZLow (S z TI TO i1 i2 l1 l2 : Addr) : Prop where
  z : z < S
  TI : TI < S
  TO : TO < S
  i1 : i1 < S
  i2 : i2 < S
  l1 : l1 < S
  l2 : l2 < S
theorem ZG.keep {as : List Addr} {h h' : Heap} (g : ZG S xs ys as h) (hk : ∀ b o, S < b → h.get? b = some o → h'.get? b = some o) : ZG S xs ys as h' :=
  ⟨g.rise, g.above, fun j t e => by
    obtain ⟨x, y, a, b, c⟩ := g.pairs j t e
    exact ⟨x, y, a, b, hk t _ (g.above t (List.mem_of_getElem? e)) c⟩⟩
theorem ZG.obj {as : List Addr} {h : Heap} (g : ZG S xs ys as h) {T : Addr} (hT : T ∈ as) : ∃ o, h.get? T = some o := by
  obtain ⟨j, e⟩ := List.getElem?_of_mem hT
  obtain ⟨x, y, _, _, c⟩ := g.pairs j T e
  exact ⟨_, c⟩
theorem ZG.snoc {as : List Addr} {h h' : Heap} {i : Nat} {x y : Value} (g : ZG S xs ys as h) (hl : as.length = i) (hS : S < h.objs.size) (hx : xs[i]? = some x) (hy : ys[i]? = some y) (hp : IsPair h' h.objs.size x y)
    (hk : ∀ b o, S < b → h.get? b = some o → h'.get? b = some o) : ZG S xs ys (as ++ [h.objs.size]) h' := by
  have g' := g.keep hk
  refine ⟨?_, ?_, ?_⟩
  · refine List.pairwise_append.mpr ⟨g.rise, List.pairwise_singleton _ _, fun a ha b hb => ?_⟩
    obtain rfl := List.mem_singleton.mp hb
    obtain ⟨o, e⟩ := g.obj ha
    exact Heap.lt_size e
  · intro t ht
    rcases List.mem_append.mp ht with q | q
    · exact g.above t q
    · obtain rfl := List.mem_singleton.mp q
      exact hS
  · intro j t e
    by_cases hj : j < as.length
    · rw [List.getElem?_append_left hj] at e
      exact g'.pairs j t e
    · rw [List.getElem?_append_right (by omega)] at e
      have hj0 : j - as.length = 0 := by
        cases q : j - as.length with
        | zero => rfl
        | succ m => rw [q] at e; simp at e
      rw [hj0] at e
      simp at e
      subst e
      have : j = i := by omega
      subst this
      exact ⟨x, y, hx, hy, hp⟩
end
section
variable {prog : Program} {w : World} {A : Around} {s : Shared} {R : Result → Shared → Prop}
variable {S z TI TO i1 i2 l1 l2 : Addr} {xs ys : Array Value} {h0 : Heap} {n : Nat}
theorem ZSt.write {i : Nat} {as : List Addr} {h : Heap} {o : Obj → Obj} (lo : ZLow S z TI TO i1 i2 l1 l2) (st : ZSt S z TI TO i1 i2 l1 l2 xs ys h0 i as h) (h' : Heap) (hk : ∀ b o, b ≠ S → h.get? b = some o → h'.get? b = some o) :
    ZSt S z TI TO i1 i2 l1 l2 xs ys h0 i as h' := by
  have nS : ∀ {a : Addr}, a < S → a ≠ S := fun h e => by rw [e] at h; exact Nat.lt_irrefl _ h
  refine ⟨hk _ _ (nS lo.TI) st.ti, st.it1.at fun o e => hk _ _ (nS lo.i1) e, st.it2.at fun o e => hk _ _ (nS lo.i2) e, st.tl1.at fun o e => hk _ _ (nS lo.l1) e, st.tl2.at fun o e => hk _ _ (nS lo.l2) e, st.len,
    st.g.keep fun b o hb e => hk b o (fun q => by rw [q] at hb; exact Nat.lt_irrefl _ hb) e, ?_, fun b o c0 c1 c2 c3 c4 e => hk b o c0 (st.base b o c0 c1 c2 c3 c4 e)⟩
  rcases st.out with ⟨e0, hz, a, b, hTO⟩ | ⟨T, f, hT, hz⟩
  · exact .inl ⟨e0, hk _ _ (nS lo.z) hz, a, b, hk _ _ (nS lo.TO) hTO⟩
  · exact .inr ⟨T, f, hT, hk _ _ (nS lo.z) hz⟩
end
end PD
namespace PD
open PySem PySem.Spec PyProof.Rows L2 RZ
end PD
namespace PD
open PySem PySem.Spec PyProof.Rows L2 RZ
end PD
namespace PD
open PySem PySem.Spec PyProof.Rows L2
abbrev cp (s : Str) : List Nat := s.cps.toList
theorem cp_app (a b : Str) : cp (a ++ b) = cp a ++ cp b := by
  show (a ++ b).cps.toList = _
  rw [Str.cps_append, Array.toList_append]
theorem cp_of (s : String) : cp (Str.ofString s) = s.toList.map Char.toNat := by
  show (Str.ofString s).cps.toList = _
  rw [Str.ofString_eq_toList]
theorem cp_inj {a b : Str} (h : cp a = cp b) : a = b := by
  cases a; cases b
  congr 1
  exact Array.toList_inj.mp h
def lowS (s : Str) : Prop := ∀ c ∈ cp s, 97 ≤ c ∧ c ≤ 122
mutual
def lowD : PyData → Prop
  | .str s => lowS s
  | .list xs => lowDs xs
  | .tuple xs => lowDs xs
  | .dict kvs => kvs = []
  | .none | .bool _ | .int _ => True
def lowDs : List PyData → Prop
  | [] => True
  | x :: xs => lowD x ∧ lowDs xs
end
theorem lowDs_all : ∀ {ds : List PyData}, lowDs ds ↔ ∀ d ∈ ds, lowD d
  | [] => by simp [lowDs]
  | d :: ds => by rw [lowDs, lowDs_all]; simp
def isDig (c : Nat) : Prop := c = 45 ∨ 48 ≤ c ∧ c ≤ 57
def isDl (c : Nat) : Bool := c == 44 || c == 41 || c == 93 || c == 125 || c == 58
theorem low_printable : ∀ c, 97 ≤ c ∧ c ≤ 122 → Unicode.isPrintable c = true := by
  have : (List.range 26).all (fun i => Unicode.isPrintable (97 + i)) = true := by decide +kernel
  rw [List.all_eq_true] at this
  rintro c ⟨h1, h2⟩
  have := this (c - 97) (List.mem_range.mpr (by omega))
  rwa [show 97 + (c - 97) = c by omega] at this
theorem reprChar_low {c : Nat} (h : 97 ≤ c ∧ c ≤ 122) : Builtin.Str.reprChar 39 c = [c] := by
  unfold Builtin.Str.reprChar
  dsimp only
  rw [if_neg (by simp; omega), if_neg (by simp; omega), if_neg (by simp; omega), if_neg (by simp; omega), if_pos (low_printable c h)]
theorem reprText_low {s : Str} (h : lowS s) : cp (reprText s) = 39 :: (cp s ++ [39]) := by
  have q : reprQuote s = 39 := by
    unfold reprQuote
    rw [if_neg]
    intro z
    simp only [Bool.and_eq_true] at z
    have m : 39 ∈ s.cps := by simpa using z.1
    have := h 39 (by simpa using m)
    omega
  unfold reprText
  rw [q]
  show ((s.cps.foldl (fun out c => out ++ (Builtin.Str.reprChar 39 c).toArray) #[39]).push 39).toList = _
  rw [Array.toList_push, ← Array.foldl_toList]
  have : ∀ (l : List Nat) (acc : Array Nat), (∀ c ∈ l, 97 ≤ c ∧ c ≤ 122) → (l.foldl (fun out c => out ++ (Builtin.Str.reprChar 39 c).toArray) acc).toList = acc.toList ++ l := fun l => by
    induction l with
    | nil => intro acc _; simp
    | cons c l ih =>
      intro acc hl
      rw [List.foldl_cons, ih _ fun d hd => hl d (List.mem_cons_of_mem _ hd), reprChar_low (hl c (by simp))]
      simp
  rw [this _ _ h]
  rfl
def numL (i : Int) : List Nat := cp (Str.ofString (toString i))
theorem numL_nat (m : Nat) : numL ((m : Nat) : Int) = (Nat.toDigits 10 m).map Char.toNat := PySem.W.KIN.signs_num m
theorem numL_neg {i : Int} (h : i < 0) : numL i = 45 :: (Nat.toDigits 10 i.natAbs).map Char.toNat := by
  unfold numL
  rw [cp_of, Int.toString_eq_repr, Int.repr_eq_if, if_neg (by omega), String.toList_append, List.map_append]
  have e : (-i).toNat = i.natAbs := by omega
  rw [e, Nat.toList_repr]
  rfl
theorem dig_range (m : Nat) : ∀ c ∈ (Nat.toDigits 10 m).map Char.toNat, 48 ≤ c ∧ c ≤ 57 := fun c h => by
  obtain ⟨d, hd, rfl⟩ := List.mem_map.mp h
  have := Nat.isDigit_of_mem_toDigits (by decide) (by decide) hd
  simp only [Char.isDigit, Bool.and_eq_true, decide_eq_true_eq] at this
  have h1 := UInt32.le_iff_toNat_le.mp this.1
  have h2 := UInt32.le_iff_toNat_le.mp this.2
  have e : d.val.toNat = d.toNat := rfl
  rw [e] at h1 h2
  exact ⟨by simpa using h1, by simpa using h2⟩
theorem dig_ne (m : Nat) : (Nat.toDigits 10 m).map Char.toNat ≠ [] := fun h => by
  have := PySem.W.KIN.val_back m
  rw [h] at this
  by_cases z : m = 0
  · subst z
    revert h
    decide
  · rw [show PySem.NumText.digitsVal [] = 0 from rfl] at this
    omega
theorem numL_range (i : Int) : ∀ c ∈ numL i, isDig c := fun c h => by
  by_cases z : i < 0
  · rw [numL_neg z] at h
    rcases List.mem_cons.mp h with e | h
    · exact .inl e
    · exact .inr (dig_range _ c h)
  · obtain ⟨m, rfl⟩ : ∃ m : Nat, i = m := ⟨i.toNat, by omega⟩
    rw [numL_nat] at h
    exact .inr (dig_range _ c h)
theorem numL_ne (i : Int) : numL i ≠ [] := by
  by_cases z : i < 0
  · rw [numL_neg z]; simp
  · obtain ⟨m, rfl⟩ : ∃ m : Nat, i = m := ⟨i.toNat, by omega⟩
    rw [numL_nat]; exact dig_ne m
theorem numL_inj {i j : Int} (h : numL i = numL j) : i = j := by
  have hd : ∀ (m : Nat) (l : List Nat), (Nat.toDigits 10 m).map Char.toNat ≠ 45 :: l := fun m l e => by
    have := dig_range m 45 (by rw [e]; simp)
    omega
  have dj : ∀ {m n : Nat}, (Nat.toDigits 10 m).map Char.toNat = (Nat.toDigits 10 n).map Char.toNat → m = n := fun {m n} e => by
    rw [← PySem.W.KIN.val_back m, e, PySem.W.KIN.val_back]
  by_cases z : i < 0
  · by_cases y : j < 0
    · rw [numL_neg z, numL_neg y] at h
      have := dj (List.cons.inj h).2
      omega
    · obtain ⟨m, rfl⟩ : ∃ m : Nat, j = m := ⟨j.toNat, by omega⟩
      rw [numL_neg z, numL_nat] at h
      exact absurd h.symm (hd _ _)
  · obtain ⟨m, rfl⟩ : ∃ m : Nat, i = m := ⟨i.toNat, by omega⟩
    by_cases y : j < 0
    · rw [numL_neg y, numL_nat] at h
      exact absurd h (hd _ _)
    · obtain ⟨n, rfl⟩ : ∃ m : Nat, j = m := ⟨j.toNat, by omega⟩
      rw [numL_nat, numL_nat] at h
      rw [dj h]
def Dl (s : List Nat) : Prop := ∀ c, s.head? = some c → isDl c = true
theorem split_dl {a b s t : List Nat} (ha : ∀ c ∈ a, isDl c = false) (hb : ∀ c ∈ b, isDl c = false) (hs : Dl s) (ht : Dl t) (h : a ++ s = b ++ t) : a = b ∧ s = t := by
  induction a generalizing b with
  | nil =>
    cases b with
    | nil => exact ⟨rfl, h⟩
    | cons c b =>
      rw [List.nil_append, List.cons_append] at h
      have := hs c (by rw [h]; rfl)
      rw [hb c (by simp)] at this
      cases this
  | cons c a ih =>
    cases b with
    | nil =>
      rw [List.nil_append, List.cons_append] at h
      have := ht c (by rw [← h]; rfl)
      rw [ha c (by simp)] at this
      cases this
    | cons d b =>
      rw [List.cons_append, List.cons_append] at h
      obtain ⟨e, h⟩ := List.cons.inj h
      obtain ⟨h1, h2⟩ := ih (fun x hx => ha x (by simp [hx])) (fun x hx => hb x (by simp [hx])) h
      exact ⟨by rw [e, h1], h2⟩
def kindC (c : Nat) : Nat := if c = 78 then 0 else if c = 84 ∨ c = 70 then 1 else if c = 45 ∨ (48 ≤ c ∧ c ≤ 57) then 2 else if c = 39 ∨ c = 34 then 3 else if c = 91 then 4 else if c = 40 then 5 else if c = 123 then 6 else 7
def kindD : PyData → Nat
  | .none => 0 | .bool _ => 1 | .int _ => 2 | .str _ => 3 | .list _ => 4 | .tuple _ => 5 | .dict _ => 6
def itemsL (e : Nat) : List (List Nat) → List Nat
  | [] => [e]
  | [x] => x ++ [e]
  | x :: y :: r => x ++ 44 :: 32 :: itemsL e (y :: r)
theorem join_items (e : Nat) : ∀ ts : List Str, cp (Str.join ", " ts) ++ [e] = itemsL e (ts.map cp)
  | [] => rfl
  | [t] => rfl
  | t :: u :: r => by
    show cp (t ++ ", " ++ Str.join ", " (u :: r)) ++ [e] = cp t ++ 44 :: 32 :: itemsL e ((u :: r).map cp)
    rw [cp_app, cp_app, ← join_items e (u :: r)]
    simp [cp_of]
theorem textFrom_items : ∀ (ts : List Str) (k : Nat) (acc : Str), 0 < k → cp (textFrom k acc ts) = cp acc ++ (ts.map fun t => 44 :: 32 :: cp t).flatten
  | [], k, acc, _ => by simp [textFrom]
  | t :: r, k, acc, hk => by
    show cp (textFrom (k + 1) (acc ++ (if k > 0 then ", " else "" : String) ++ t) r) = _
    rw [textFrom_items r (k + 1) _ (by omega), if_pos hk, cp_app, cp_app, cp_of]
    simp
theorem itemsL_flat (e : Nat) : ∀ (x : List Nat) (r : List (List Nat)), itemsL e (x :: r) = x ++ (r.map fun t => 44 :: 32 :: t).flatten ++ [e]
  | x, [] => by simp [itemsL]
  | x, y :: r => by
    rw [itemsL, itemsL_flat e y r]
    simp
theorem list_items (ts : List Str) : cp (listText ts) = 91 :: itemsL 93 (ts.map cp) := by
  unfold listText
  rw [cp_app]
  cases ts with
  | nil => rfl
  | cons t r =>
    show cp (textFrom 1 ("[" ++ (if 0 > 0 then ", " else "" : String) ++ t) r) ++ _ = _
    rw [textFrom_items r 1 _ (by omega), cp_app, cp_app, if_neg (by omega), cp_of, cp_of, cp_of, List.map_cons, itemsL_flat, List.map_map]
    simp [Function.comp_def]
theorem tuple_items (ts : List Str) (h : ts.length ≠ 1) : cp (tupleText ts) = 40 :: itemsL 41 (ts.map cp) := by
  unfold tupleText
  rw [if_neg (by simpa using h), cp_app, cp_app, cp_of, cp_of]
  rw [List.append_assoc, show (")" : String).toList.map Char.toNat = [41] from rfl, join_items]
  rfl
theorem tuple_one (t : Str) : cp (tupleText [t]) = 40 :: (cp t ++ [44, 41]) := by
  show cp (("(" : Str) ++ t ++ (",)" : String)) = _
  rw [cp_app, cp_app, cp_of, cp_of]
  rfl
theorem shownAll_map : ∀ ds : List PyData, PyData.shownAll ds = ds.map PyData.shown
  | [] => rfl
  | d :: ds => by rw [PyData.shownAll, shownAll_map ds]; rfl
theorem head_kind : ∀ (d : PyData), lowD d → ∃ c r, cp d.shown = c :: r ∧ kindC c = kindD d ∧ isDl c = false
  | .none, _ => ⟨78, _, rfl, rfl, rfl⟩
  | .bool true, _ => ⟨84, _, rfl, rfl, rfl⟩
  | .bool false, _ => ⟨70, _, rfl, rfl, rfl⟩
  | .int i, _ => by
    show ∃ c r, numL i = c :: r ∧ _
    cases h : numL i with
    | nil => exact absurd h (numL_ne i)
    | cons c r =>
      have := numL_range i c (by rw [h]; simp)
      refine ⟨c, r, rfl, ?_⟩
      unfold isDig at this
      constructor
      · unfold kindC kindD
        rw [if_neg (by omega), if_neg (by omega), if_pos this]
      · unfold isDl
        simp
        omega
  | .str s, h => by
    show ∃ c r, cp (reprText s) = c :: r ∧ _
    rw [reprText_low h]
    exact ⟨39, _, rfl, rfl, rfl⟩
  | .list xs, _ => by
    show ∃ c r, cp (listText _) = c :: r ∧ _
    rw [list_items]
    exact ⟨91, _, rfl, rfl, rfl⟩
  | .tuple xs, _ => by
    show ∃ c r, cp (tupleText (PyData.shownAll xs)) = c :: r ∧ _
    by_cases h : (PyData.shownAll xs).length = 1
    · match PyData.shownAll xs, h with
      | [t], _ => rw [tuple_one]; exact ⟨40, _, rfl, rfl, rfl⟩
    · rw [tuple_items _ h]
      exact ⟨40, _, rfl, rfl, rfl⟩
  | .dict kvs, _ => by
    show ∃ c r, cp (("{" : Str) ++ Str.join ", " _ ++ "}") = c :: r ∧ _
    rw [cp_app, cp_app, cp_of]
    exact ⟨123, _, rfl, rfl, rfl⟩
inductive Ky : PyData → Prop
  | int (i : Int) : Ky (.int i)
  | str {s : Str} : lowS s → Ky (.str s)
  | tup {xs : List PyData} : (∀ x ∈ xs, Ky x) → Ky (.tuple xs)
def Pre (d : PyData) : Prop := ∀ e s t, lowD e → Dl s → Dl t → cp e.shown ++ s = cp d.shown ++ t → e = d ∧ s = t
theorem dl_cons {c : Nat} {s : List Nat} (h : isDl c = true) : Dl (c :: s) := fun d e => by
  simp at e
  rw [← e]; exact h
theorem items_pre {q : Nat} (hq : isDl q = true) (hq4 : q ≠ 44) : ∀ (ds es : List PyData) (s t : List Nat), (∀ d ∈ ds, Pre d ∧ lowD d) → (∀ e ∈ es, lowD e) → itemsL q (es.map fun d => cp d.shown) ++ s = itemsL q (ds.map fun d => cp d.shown) ++ t → es = ds ∧ s = t
  | [], [], s, t, _, _, h => ⟨rfl, by simpa [itemsL] using h⟩
  | [], e :: es, s, t, _, he, h => by
    obtain ⟨c, r, e1, _, e2⟩ := head_kind e (he e (by simp))
    rw [List.map_cons, itemsL_flat, e1] at h
    have : c = q := by simpa [itemsL] using (congrArg List.head? h)
    rw [this, hq] at e2
    cases e2
  | d :: ds, [], s, t, hd, _, h => by
    obtain ⟨c, r, e1, _, e2⟩ := head_kind d (hd d (by simp)).2
    rw [List.map_cons, itemsL_flat, e1] at h
    have : q = c := by simpa [itemsL] using (congrArg List.head? h)
    rw [← this, hq] at e2
    cases e2
  | [d], [e], s, t, hd, he, h => by
    simp only [List.map_cons, List.map_nil, itemsL, List.append_assoc, List.cons_append, List.nil_append] at h
    obtain ⟨a, b⟩ := (hd d (by simp)).1 e _ _ (he e (by simp)) (dl_cons hq) (dl_cons hq) h
    exact ⟨by rw [a], (List.cons.inj b).2⟩
  | [d], e :: f :: es, s, t, hd, he, h => by
    simp only [List.map_cons, List.map_nil, itemsL, List.append_assoc, List.cons_append, List.nil_append] at h
    obtain ⟨a, b⟩ := (hd d (by simp)).1 e _ _ (he e (by simp)) (dl_cons (by decide)) (dl_cons hq) h
    exact absurd (List.cons.inj b).1.symm hq4
  | d :: g :: ds, [e], s, t, hd, he, h => by
    simp only [List.map_cons, List.map_nil, itemsL, List.append_assoc, List.cons_append, List.nil_append] at h
    obtain ⟨a, b⟩ := (hd d (by simp)).1 e _ _ (he e (by simp)) (dl_cons hq) (dl_cons (by decide)) h
    exact absurd (List.cons.inj b).1 hq4
  | d :: g :: ds, e :: f :: es, s, t, hd, he, h => by
    simp only [List.map_cons, itemsL, List.append_assoc, List.cons_append] at h
    obtain ⟨a, b⟩ := (hd d (by simp)).1 e _ _ (he e (by simp)) (dl_cons (by decide)) (dl_cons (by decide)) h
    have b2 := (List.cons.inj (List.cons.inj b).2).2
    obtain ⟨u, v⟩ := items_pre hq hq4 (g :: ds) (f :: es) s t (fun x hx => hd x (by simp at hx ⊢; right; exact hx)) (fun x hx => he x (by simp at hx ⊢; right; exact hx)) (by simpa using b2)
    exact ⟨by rw [a, u], v⟩
theorem Ky.low {d : PyData} (h : Ky d) : lowD d := by
  induction h with
  | int i => trivial
  | str h => exact h
  | tup h ih => exact lowDs_all.mpr ih
theorem kind_eq {d e : PyData} {s t : List Nat} (hd : lowD d) (he : lowD e) (h : cp e.shown ++ s = cp d.shown ++ t) : kindD e = kindD d := by
  obtain ⟨c, r, e1, k1, _⟩ := head_kind d hd
  obtain ⟨c', r', e2, k2, _⟩ := head_kind e he
  rw [e1, e2] at h
  rw [← k1, ← k2, (List.cons.inj h).1]
theorem Ky.pre {d : PyData} (h : Ky d) : Pre d := by
  induction h with
  | int i =>
    intro e s t he hs ht h
    have k := kind_eq (d := .int i) trivial he h
    cases e <;> simp [kindD] at k
    rename_i j
    have nd : ∀ i : Int, ∀ c ∈ numL i, isDl c = false := fun i c hc => by
      have := numL_range i c hc
      unfold isDig at this
      unfold isDl
      simp
      omega
    obtain ⟨a, b⟩ := split_dl (a := numL j) (b := numL i) (nd j) (nd i) hs ht h
    exact ⟨by rw [numL_inj a], b⟩
  | @str u hu =>
    intro e s t he hs ht h
    have k := kind_eq (d := .str u) hu he h
    cases e <;> simp [kindD] at k
    rename_i v
    have h : cp (reprText v) ++ s = cp (reprText u) ++ t := h
    have nd : ∀ u : Str, lowS u → ∀ c ∈ cp (reprText u), isDl c = false := fun u hu c hc => by
      rw [reprText_low hu] at hc
      simp at hc
      unfold isDl
      rcases hc with rfl | hc | rfl
      · rfl
      · have := hu c (by simpa using hc)
        simp
        omega
      · rfl
    obtain ⟨a, b⟩ := split_dl (nd v he) (nd u hu) hs ht h
    rw [reprText_low he, reprText_low hu] at a
    have := List.append_cancel_right (List.cons.inj a).2
    exact ⟨by rw [cp_inj this], b⟩
  | @tup xs hx ih =>
    intro e s t he hs ht h
    have k := kind_eq (d := .tuple xs) (Ky.tup hx).low he h
    cases e <;> simp [kindD] at k
    rename_i ys
    have hy : ∀ y ∈ ys, lowD y := lowDs_all.mp he
    have h : cp (tupleText (PyData.shownAll ys)) ++ s = cp (tupleText (PyData.shownAll xs)) ++ t := h
    have mm : ∀ zs : List PyData, (PyData.shownAll zs).map cp = zs.map fun d => cp d.shown := fun zs => by rw [shownAll_map, List.map_map]; rfl
    have xl : ∀ x ∈ xs, Pre x ∧ lowD x := fun x h => ⟨ih x h, (hx x h).low⟩
    by_cases l1 : xs.length = 1
    · obtain ⟨x, rfl⟩ := List.length_eq_one_iff.mp l1
      rw [show PyData.shownAll [x] = [x.shown] from rfl, tuple_one] at h
      have hx1 := xl x (by simp)
      by_cases l2 : ys.length = 1
      · obtain ⟨y, rfl⟩ := List.length_eq_one_iff.mp l2
        rw [show PyData.shownAll [y] = [y.shown] from rfl, tuple_one] at h
        simp only [List.cons_append, List.append_assoc, List.nil_append] at h
        obtain ⟨a, b⟩ := hx1.1 y _ _ (hy y (by simp)) (dl_cons (by decide)) (dl_cons (by decide)) (List.cons.inj h).2
        exact ⟨by rw [a], by simpa using b⟩
      · rw [tuple_items (PyData.shownAll ys) (by rw [shownAll_map]; simpa using l2), mm] at h
        match ys, l2, hy with
        | [], _, _ =>
          obtain ⟨c, r, e1, _, e2⟩ := head_kind x hx1.2
          rw [e1] at h
          have : 41 = c := by simpa [itemsL] using (congrArg (fun l => l.tail.head?) h)
          rw [← this] at e2
          exact absurd e2 (by decide)
        | y :: z :: r, _, hy =>
          simp only [List.map_cons, itemsL, List.cons_append, List.append_assoc, List.nil_append] at h
          obtain ⟨a, b⟩ := hx1.1 y _ _ (hy y (by simp)) (dl_cons (by decide)) (dl_cons (by decide)) (List.cons.inj h).2
          have := (List.cons.inj (List.cons.inj b).2).1
          omega
    · rw [tuple_items (PyData.shownAll xs) (by rw [shownAll_map]; simpa using l1), mm] at h
      by_cases l2 : ys.length = 1
      · obtain ⟨y, rfl⟩ := List.length_eq_one_iff.mp l2
        rw [show PyData.shownAll [y] = [y.shown] from rfl, tuple_one] at h
        have hy1 := hy y (by simp)
        match xs, l1, xl with
        | [], _, _ =>
          obtain ⟨c, r, e1, _, e2⟩ := head_kind y hy1
          rw [e1] at h
          have : c = 41 := by simpa [itemsL] using (congrArg (fun l => l.tail.head?) h)
          rw [this] at e2
          exact absurd e2 (by decide)
        | x :: z :: r, _, xl =>
          simp only [List.map_cons, itemsL, List.cons_append, List.append_assoc, List.nil_append] at h
          obtain ⟨a, b⟩ := (xl x (by simp)).1 y _ _ hy1 (dl_cons (by decide)) (dl_cons (by decide)) (List.cons.inj h).2
          have := (List.cons.inj (List.cons.inj b).2).1
          omega
      · rw [tuple_items (PyData.shownAll ys) (by rw [shownAll_map]; simpa using l2), mm] at h
        simp only [List.cons_append] at h
        obtain ⟨a, b⟩ := items_pre (q := 41) (by decide) (by decide) xs ys s t xl hy (List.cons.inj h).2
        exact ⟨by rw [a], b⟩
theorem shown_list {ds es : List PyData} (hd : ∀ d ∈ ds, Ky d) (he : ∀ e ∈ es, lowD e) : (PyData.list es).shown = (PyData.list ds).shown ↔ es = ds := by
  constructor
  · intro h
    have h : cp (listText (PyData.shownAll es)) = cp (listText (PyData.shownAll ds)) := congrArg cp h
    rw [list_items, list_items, shownAll_map, shownAll_map, List.map_map, List.map_map] at h
    exact (items_pre (q := 93) (by decide) (by decide) ds es [] [] (fun d h => ⟨(hd d h).pre, (hd d h).low⟩) he (by simpa [Function.comp_def] using (List.cons.inj h).2)).1
  · intro h; rw [h]
end PD
namespace Wk
open PySem PySem.Spec PyProof.Rows L2 PD
def m_is_sign_2 : SM := sRet (eC (.bool false))
def m_is_sign_1 : SM := sIf (bOr (bNot (bTr (e1 (isaV PyData.isStr) (eV 0)))) (bNot (bB (eChain leV leV (eC (.int 1)) (eA1 lenV (eV 0)) (eC (.int 8)))))) (m_is_sign_2) (sNx)
def m_is_sign_3 : SM := sRet (e2 (eqV false) (eLc (iSeq (eV 0)) (gSet 1) (bB (e2 (inV true) (eV 1) (eC (.str "abcdefghijklmnopqrstuvwxyz")))) (eV 1) [1]) (eA mkLst (aN)))
def m_is_sign : SM := sSeq m_is_sign_1 m_is_sign_3
theorem m_is_sign_2_E {fr : Fr} {S : Store} : m_is_sign_2 fr S = (sRet (eC (.bool false))) fr S := rfl
theorem m_is_sign_1_E {fr : Fr} {S : Store} : m_is_sign_1 fr S = (sIf (bOr (bNot (bTr (e1 (isaV PyData.isStr) (eV 0)))) (bNot (bB (eChain leV leV (eC (.int 1)) (eA1 lenV (eV 0)) (eC (.int 8)))))) (m_is_sign_2) (sNx)) fr S := rfl
theorem m_is_sign_3_E {fr : Fr} {S : Store} : m_is_sign_3 fr S = (sRet (e2 (eqV false) (eLc (iSeq (eV 0)) (gSet 1) (bB (e2 (inV true) (eV 1) (eC (.str "abcdefghijklmnopqrstuvwxyz")))) (eV 1) [1]) (eA mkLst (aN)))) fr S := rfl
theorem m_is_sign_E {fr : Fr} {S : Store} : m_is_sign fr S = (sSeq m_is_sign_1 m_is_sign_3) fr S := rfl
def F_is_sign : FN := bodyF 2 m_is_sign
def m_is_whole_1 : SM := sRet (eAnd (e1 (isaV PyData.isInt) (eV 0)) (eAnd (eNot (e1 (isaV PyData.isBool) (eV 0))) (eChain leV leV (eV 1) (eV 0) (eV 2))))
def m_is_whole : SM := m_is_whole_1
theorem m_is_whole_1_E {fr : Fr} {S : Store} : m_is_whole_1 fr S = (sRet (eAnd (e1 (isaV PyData.isInt) (eV 0)) (eAnd (eNot (e1 (isaV PyData.isBool) (eV 0))) (eChain leV leV (eV 1) (eV 0) (eV 2))))) fr S := rfl
theorem m_is_whole_E {fr : Fr} {S : Store} : m_is_whole fr S = (m_is_whole_1) fr S := rfl
def F_is_whole : FN := bodyF 3 m_is_whole
local macro_rules
  | `(tactic| walk_at "go") => `(tactic| simp only [sSeq, ssat_next, ssat_toS, ssat_nx, ssat_rt, ssat_bk, ssat_ct, ssat_bad, ssat_ite, if_false_right, sat_ok, sat_bad, sat_exc, sat_bind, sat_ite, sPutO, sPutI, sPutD, eD, ownD, sAsg, fE, sIf, sNx, sRet, sDrop, sOwn, sApp, sExt, sPar, sFor, e1, e2, eV, eC, eA, eA1, aC, aN, eSl, oN, oS, eP, eM1, eIf, eCall, eChain, eJ, jC, jN, bB, bTr, bAnd, bOr, bNot, eAnd, eOr, eNot, bYes, iSeq, iA, ofG, ofO, fmtV, strV, tupleV, listV, iaddV, PD.eq_int, PD.eq_str, eq_self, gSet, ggNil, ggCons, ggTup, mkTup, mkLst, mkObj, asDs, asD, ownL,
      List.map_cons, List.map_nil, List.cons_append, List.nil_append, List.length_cons, List.length_nil, List.length_set, List.replicate, List.getElem?_cons_succ, List.getElem?_cons_zero, List.getElem?_nil, List.set_cons_succ, List.set_cons_zero, List.all_cons, List.all_nil, setAll, Option.map_some, Option.map_none, Option.bind_some, Option.bind_none,
      ixV, addV, subV, mulV, modV, divV, powV, negV, lenV, intV, absI, enumV, iterV, PD.slV, boolV, truthV, ltD, revA, ltV, gtV, leV, geV, isV, isNone, L2.atI, ixN, Bool.false_xor, Bool.true_xor, Bool.not_true, Bool.not_false, Bool.and_true, Bool.true_and, Bool.and_false, Bool.false_and, decide_true, decide_false, decide_eq_true_eq, Bool.and_eq_true, if_true, if_false, reduceIte, Bool.false_eq_true, Str.empty_append, List.length_append, ite_true, ite_false, true_and, and_true, Int.cast_ofNat_Int, Nat.reduceAdd, Nat.reduceSub, Nat.reduceLT, Int.reduceLT, Int.reduceLE, Int.reduceToNat, Nat.lt_add_one])
local macro_rules
  | `(tactic| walk_at "g0") => `(tactic| simp only [sSeq, ssat_next, ssat_toS, ssat_nx, ssat_rt, ssat_bk, ssat_ct, ssat_bad, ssat_ite, if_false_right, sat_ok, sat_bad, sat_exc, sat_bind, sat_ite, sPutO, sPutI, sPutD, eD, ownD, sAsg, fE, sIf, sNx, sRet, sDrop, sOwn, sApp, sExt, sPar, sFor, e1, e2, eV, eC, eA, eA1, aC, aN, eSl, oN, oS, eP, eM1, eIf, eCall, eChain, eJ, jC, jN, bB, bTr, bAnd, bOr, bNot, eAnd, eOr, eNot, bYes, iSeq, iA, ofG, ofO, fmtV, strV, tupleV, listV, iaddV, PD.eq_int, PD.eq_str, eq_self, gSet, ggNil, ggCons, ggTup, mkTup, mkLst, mkObj, asDs, asD, ownL,
      List.map_cons, List.map_nil, List.cons_append, List.nil_append, List.length_cons, List.length_nil, List.length_set, List.replicate, List.getElem?_cons_succ, List.getElem?_cons_zero, List.getElem?_nil, List.set_cons_succ, List.set_cons_zero, List.all_cons, List.all_nil, setAll, ixT0, ixT1, ixT2, ixL0, ixL1, ixL2, Option.map_some, Option.map_none, Option.bind_some, Option.bind_none,
      addV, subV, mulV, modV, divV, powV, negV, lenV, intV, absI, enumV, iterV, PD.slV, boolV, truthV, ltD, revA, ltV, gtV, leV, geV, isV, isNone, Bool.false_xor, Bool.true_xor, Bool.not_true, Bool.not_false, Bool.and_true, Bool.true_and, Bool.and_false, Bool.false_and, decide_true, decide_false, decide_eq_true_eq, Bool.and_eq_true, if_true, if_false, reduceIte, Bool.false_eq_true, Str.empty_append, List.length_append, ite_true, ite_false, true_and, and_true, Int.cast_ofNat_Int, Nat.reduceAdd, Nat.reduceSub, Nat.reduceLT, Int.reduceLT, Int.reduceLE, Int.reduceToNat, Nat.lt_add_one])
local macro_rules
  | `(tactic| walk_at "g1") => `(tactic| simp only [sSeq, ssat_next, ssat_toS, ssat_nx, ssat_rt, ssat_bk, ssat_ct, ssat_bad, ssat_ite, if_false_right, sat_ok, sat_bad, sat_exc, sat_bind, sat_ite, sPutO, sPutI, sPutD, eD, ownD, sAsg, fE, sIf, sNx, sRet, sDrop, sOwn, sApp, sExt, sPar, sFor, e1, e2, eV, eC, eA, eA1, aC, aN, eSl, oN, oS, eP, eM1, eIf, eCall, eChain, eJ, jC, jN, bB, bTr, bAnd, bOr, bNot, eAnd, eOr, eNot, bYes, iSeq, iA, ofG, ofO, fmtV, strV, tupleV, listV, iaddV, PD.eq_int, PD.eq_str, eq_self, gSet, ggNil, ggCons, ggTup, mkTup, mkLst, mkObj, asDs, asD, ownL,
      List.map_cons, List.map_nil, List.cons_append, List.nil_append, List.length_cons, List.length_nil, List.length_set, List.replicate, List.getElem?_cons_succ, List.getElem?_cons_zero, List.getElem?_nil, List.set_cons_succ, List.set_cons_zero, List.all_cons, List.all_nil, setAll, ixT0, ixT1, ixT2, ixL0, ixL1, ixL2, Option.map_some, Option.map_none, Option.bind_some, Option.bind_none,
      addV, subV, mulV, modV, divV, powV, negV, lenV, intV, absI, enumV, iterV, PD.slV, boolV, truthV, ltD, revA, ltV, gtV, leV, geV, isV, isNone, Bool.false_xor, Bool.true_xor, Bool.not_true, Bool.not_false, Bool.and_true, Bool.true_and, Bool.and_false, Bool.false_and, decide_true, decide_false, decide_eq_true_eq, Bool.and_eq_true, if_true, if_false, reduceIte, Bool.false_eq_true, Str.empty_append, List.length_append, ite_true, ite_false, true_and, and_true, Int.cast_ofNat_Int, Nat.reduceAdd, Nat.reduceSub, Nat.reduceLT, Int.reduceLT, Int.reduceSub, Int.reduceAdd, Int.reduceNeg, Int.reduceLE, Int.reduceToNat, Nat.lt_add_one])
local macro_rules
  | `(tactic| walk_at "g") => `(tactic| simp only [sSeq, ssat_next, ssat_toS, ssat_nx, ssat_rt, ssat_bk, ssat_ct, ssat_bad, ssat_ite, if_false_right, sat_ok, sat_bad, sat_exc, sat_bind, sat_ite, sPutO, sPutI, sPutD, eD, ownD, sAsg, fE, sIf, sNx, sRet, sDrop, sOwn, sApp, sExt, sPar, sFor, e1, e2, eV, eC, eA, eA1, aC, aN, eSl, oN, oS, eP, eM1, eIf, eCall, eChain, eJ, jC, jN, bB, bTr, bAnd, bOr, bNot, eAnd, eOr, eNot, bYes, iSeq, iA, ofG, ofO, fmtV, strV, tupleV, listV, iaddV, PD.eq_int, PD.eq_str, eq_self, gSet, ggNil, ggCons, ggTup, mkTup, mkLst, mkObj, asDs, asD, ownL,
      List.map_cons, List.map_nil, List.cons_append, List.nil_append, List.length_cons, List.length_nil, List.length_set, List.replicate, List.getElem?_cons_succ, List.getElem?_cons_zero, List.getElem?_nil, List.set_cons_succ, List.set_cons_zero, List.all_cons, List.all_nil, setAll, ixT0, ixT1, ixT2, ixL0, ixL1, ixL2, Option.map_some, Option.map_none, Option.bind_some, Option.bind_none,
      addV, subV, mulV, modV, divV, powV, negV, lenV, intV, absI, enumV, iterV, PD.slV, boolV, truthV, ltD, revA, ltV, gtV, leV, geV, isV, isNone, Bool.false_xor, Bool.true_xor, Bool.not_true, Bool.not_false, Bool.and_true, Bool.true_and, Bool.and_false, Bool.false_and, decide_true, decide_false, decide_eq_true_eq, Bool.and_eq_true, if_true, if_false, reduceIte, Bool.false_eq_true, Str.empty_append, List.length_append, ite_true, ite_false, true_and, and_true, Int.cast_ofNat_Int, Nat.reduceAdd, Nat.reduceSub, Nat.reduceLT, Int.reduceLT, Int.reduceSub, Int.reduceAdd, Int.reduceNeg, Int.reduceLE, Int.reduceToNat, Nat.lt_add_one, beq_iff_eq, sizeLine_eq, Nat.reduceLeDiff, inV_tup, inV_lst, eqv_str, eqv_int, eqV_nilT, cutD_tail, false_and, and_false, or_true, true_or, or_false, false_or, ixT3, Bool.true_eq_false, Bool.or_eq_false_iff, decide_eq_false_iff_not, Int.not_le, Int.not_lt, beq_self_eq_true, Int.reduceBEq, Bool.not_eq_eq_eq_not, beq_eq_false_iff_ne, ne_eq, not_true_eq_false, not_false_eq_true, List.isEmpty_cons, List.isEmpty_nil, List.any_cons, List.any_nil, Bool.or_false, Bool.or_eq_true, isaV, PyData.isInt, PyData.isStr, PyData.isBool, PyData.isTuple, PyData.isList, PyData.isDict, m_is_sign_2_E, m_is_sign_1_E, m_is_sign_3_E, m_is_sign_E, m_is_whole_1_E, m_is_whole_E])
local macro_rules
  | `(tactic| walk_at "gt") => `(tactic| try walk_at "go")
local macro_rules
  | `(tactic| walk_at "gq") => `(tactic| try walk_at "g0")
local macro_rules
  | `(tactic| walk_at "len") => `(tactic| (simp only [Str.length_append, PySem.ofString_length, len_nil, sizeLine_eq] at *; omega))
local macro_rules
  | `(tactic| walk_at "fin") => `(tactic| ((repeat' apply And.intro) <;> first | assumption | exact True.intro | walk_at "len" | rfl))
local macro_rules
  | `(tactic| walk_at "start") => `(tactic| (rw [sat_body]; simp only [List.map_cons, List.map_nil, List.cons_append, List.nil_append, List.length_cons, List.length_nil, Nat.reduceAdd, Nat.reduceSub, List.replicate]))
local macro_rules
  | `(tactic| walk_at "wd") => `(tactic| first | assumption | exact Wd.none | exact Wd.bool | exact Wd.small (by decide) (by decide) | exact Wd.lit (by decide) | exact Wd.dict0 | exact Wd.tup Wds.nil | exact Wd.lst Wds.nil | (refine Wd.t1 (k := 2) (a := 990) ?_ (by decide) <;> walk_at "wd") | (refine Wd.t2 (k := 2) (a := 990) (b := 990) ?_ ?_ (by decide) <;> walk_at "wd") | (refine Wd.t3 (k := 2) (a := 990) (b := 990) (c := 990) ?_ ?_ ?_ (by decide) <;> walk_at "wd") | (refine Wd.t4 (k := 2) (a := 990) (b := 990) (c := 990) (e := 990) ?_ ?_ ?_ ?_ (by decide) <;> walk_at "wd") | (refine Wd.t1 (k := 1) (a := 240) ?_ (by decide) <;> walk_at "wd") | (refine Wd.t2 (k := 1) (a := 240) (b := 240) ?_ ?_ (by decide) <;> walk_at "wd") | (refine Wd.t3 (k := 1) (a := 240) (b := 240) (c := 240) ?_ ?_ ?_ (by decide) <;> walk_at "wd") | (refine Wd.t4 (k := 1) (a := 240) (b := 240) (c := 240) (e := 240) ?_ ?_ ?_ ?_ (by decide) <;> walk_at "wd") | (refine Wd.t1 (k := 0) (a := 55) ?_ (by decide) <;> walk_at "wd") | (refine Wd.t2 (k := 0) (a := 55) (b := 55) ?_ ?_ (by decide) <;> walk_at "wd") | (refine Wd.t3 (k := 0) (a := 55) (b := 55) (c := 55) ?_ ?_ ?_ (by decide) <;> walk_at "wd") | (refine Wd.t4 (k := 0) (a := 55) (b := 55) (c := 55) (e := 55) ?_ ?_ ?_ ?_ (by decide) <;> walk_at "wd"))
def wholeOk (lo hi : Int) : PyData → Bool
  | .int i => decide (lo ≤ i) && decide (i ≤ hi)
  | _ => false
theorem is_whole_eq (v : PyData) (lo hi : Int) (S : Store) : F_is_whole [.d v, .d (.int lo), .d (.int hi)] S = .ok (.d (.bool (wholeOk lo hi v))) S := by
  refine sat_eq ?_
  unfold F_is_whole
  walk_at "start"
  walk_at "g"
  cases v <;> walk_at "g"
  all_goals first | rfl | (split <;> simp_all [wholeOk] <;> omega)
end Wk
namespace Wk
open PySem PySem.Spec PyProof.Rows L2 PD
def m_is_word_1 : SM := sRet (eAnd (eCall 1 F_is_sign (aC (eV 0) (aN))) (e2 (inV true) (eV 0) (eA mkTup (aC (eC (.str "lost")) (aC (eC (.str "out")) (aC (eC (.str "ever")) (aN)))))))
def m_is_word : SM := m_is_word_1
theorem m_is_word_1_E {fr : Fr} {S : Store} : m_is_word_1 fr S = (sRet (eAnd (eCall 1 F_is_sign (aC (eV 0) (aN))) (e2 (inV true) (eV 0) (eA mkTup (aC (eC (.str "lost")) (aC (eC (.str "out")) (aC (eC (.str "ever")) (aN)))))))) fr S := rfl
theorem m_is_word_E {fr : Fr} {S : Store} : m_is_word fr S = (m_is_word_1) fr S := rfl
def F_is_word : FN := bodyF 1 m_is_word
def m_is_deed_2 : SM := sRet (eC (.bool false))
def m_is_deed_1 : SM := sIf (bOr (bNot (bTr (e1 (isaV PyData.isTuple) (eV 0)))) (bOr (bB (e2 (inV true) (eA1 lenV (eV 0)) (eA mkTup (aC (eC (.int 2)) (aC (eC (.int 3)) (aN)))))) (bNot (bTr (e1 (isaV PyData.isStr) (e2 ixV (eV 0) (eC (.int 0)))))))) (m_is_deed_2) (sNx)
def m_is_deed_4 : SM := sRet (eAnd (e2 (eqV false) (e2 ixV (eV 0) (eC (.int 0))) (eC (.str "stop"))) (eCall 1 F_is_word (aC (e2 ixV (eV 0) (eC (.int 1))) (aN))))
def m_is_deed_3 : SM := sIf (bB (e2 (eqV false) (eA1 lenV (eV 0)) (eC (.int 2)))) (m_is_deed_4) (sNx)
def m_is_deed_5 : SM := sRet (eAnd (e2 (eqV false) (e2 ixV (eV 0) (eC (.int 0))) (eC (.str "go"))) (eAnd (eCall 3 F_is_whole (aC (e2 ixV (eV 0) (eC (.int 1))) (aC (eC (.int 0)) (aC (eC (.int 2)) (aN))))) (eCall 3 F_is_whole (aC (e2 ixV (eV 0) (eC (.int 2))) (aC (eC (.int 0)) (aC (e2 subV (eV 1) (eC (.int 1))) (aN)))))))
def m_is_deed : SM := sSeq m_is_deed_1 (sSeq m_is_deed_3 m_is_deed_5)
theorem m_is_deed_2_E {fr : Fr} {S : Store} : m_is_deed_2 fr S = (sRet (eC (.bool false))) fr S := rfl
theorem m_is_deed_1_E {fr : Fr} {S : Store} : m_is_deed_1 fr S = (sIf (bOr (bNot (bTr (e1 (isaV PyData.isTuple) (eV 0)))) (bOr (bB (e2 (inV true) (eA1 lenV (eV 0)) (eA mkTup (aC (eC (.int 2)) (aC (eC (.int 3)) (aN)))))) (bNot (bTr (e1 (isaV PyData.isStr) (e2 ixV (eV 0) (eC (.int 0)))))))) (m_is_deed_2) (sNx)) fr S := rfl
theorem m_is_deed_4_E {fr : Fr} {S : Store} : m_is_deed_4 fr S = (sRet (eAnd (e2 (eqV false) (e2 ixV (eV 0) (eC (.int 0))) (eC (.str "stop"))) (eCall 1 F_is_word (aC (e2 ixV (eV 0) (eC (.int 1))) (aN))))) fr S := rfl
theorem m_is_deed_3_E {fr : Fr} {S : Store} : m_is_deed_3 fr S = (sIf (bB (e2 (eqV false) (eA1 lenV (eV 0)) (eC (.int 2)))) (m_is_deed_4) (sNx)) fr S := rfl
theorem m_is_deed_5_E {fr : Fr} {S : Store} : m_is_deed_5 fr S = (sRet (eAnd (e2 (eqV false) (e2 ixV (eV 0) (eC (.int 0))) (eC (.str "go"))) (eAnd (eCall 3 F_is_whole (aC (e2 ixV (eV 0) (eC (.int 1))) (aC (eC (.int 0)) (aC (eC (.int 2)) (aN))))) (eCall 3 F_is_whole (aC (e2 ixV (eV 0) (eC (.int 2))) (aC (eC (.int 0)) (aC (e2 subV (eV 1) (eC (.int 1))) (aN)))))))) fr S := rfl
theorem m_is_deed_E {fr : Fr} {S : Store} : m_is_deed fr S = (sSeq m_is_deed_1 (sSeq m_is_deed_3 m_is_deed_5)) fr S := rfl
def F_is_deed : FN := bodyF 2 m_is_deed
def m_is_rule_2 : SM := sRet (eC (.bool false))
def m_is_rule_1 : SM := sIf (bOr (bNot (bTr (e1 (isaV PyData.isTuple) (eV 0)))) (bB (e2 (eqV true) (eA1 lenV (eV 0)) (eC (.int 3))))) (m_is_rule_2) (sNx)
def m_is_rule_3 : SM := sAsg (ggTup 3 (ggCons (gSet 2) (ggCons (gSet 3) (ggCons (gSet 4) (ggNil))))) (fE (eV 0))
def m_is_rule_5 : SM := sRet (eC (.bool false))
def m_is_rule_4 : SM := sIf (bOr (bAnd (bB (e2 (isV true) (eV 2) (eC .none))) (bNot (bTr (eCall 1 F_is_sign (aC (eV 2) (aN)))))) (bAnd (bB (e2 (isV true) (eV 3) (eC .none))) (bNot (bTr (eCall 3 F_is_whole (aC (eV 3) (aC (eC (.int 1)) (aC (eC (.int 3)) (aN))))))))) (m_is_rule_5) (sNx)
def m_is_rule_6 : SM := sRet (eCall 2 F_is_deed (aC (eV 4) (aC (eV 1) (aN))))
def m_is_rule : SM := sSeq m_is_rule_1 (sSeq m_is_rule_3 (sSeq m_is_rule_4 m_is_rule_6))
theorem m_is_rule_2_E {fr : Fr} {S : Store} : m_is_rule_2 fr S = (sRet (eC (.bool false))) fr S := rfl
theorem m_is_rule_1_E {fr : Fr} {S : Store} : m_is_rule_1 fr S = (sIf (bOr (bNot (bTr (e1 (isaV PyData.isTuple) (eV 0)))) (bB (e2 (eqV true) (eA1 lenV (eV 0)) (eC (.int 3))))) (m_is_rule_2) (sNx)) fr S := rfl
theorem m_is_rule_3_E {fr : Fr} {S : Store} : m_is_rule_3 fr S = (sAsg (ggTup 3 (ggCons (gSet 2) (ggCons (gSet 3) (ggCons (gSet 4) (ggNil))))) (fE (eV 0))) fr S := rfl
theorem m_is_rule_5_E {fr : Fr} {S : Store} : m_is_rule_5 fr S = (sRet (eC (.bool false))) fr S := rfl
theorem m_is_rule_4_E {fr : Fr} {S : Store} : m_is_rule_4 fr S = (sIf (bOr (bAnd (bB (e2 (isV true) (eV 2) (eC .none))) (bNot (bTr (eCall 1 F_is_sign (aC (eV 2) (aN)))))) (bAnd (bB (e2 (isV true) (eV 3) (eC .none))) (bNot (bTr (eCall 3 F_is_whole (aC (eV 3) (aC (eC (.int 1)) (aC (eC (.int 3)) (aN))))))))) (m_is_rule_5) (sNx)) fr S := rfl
theorem m_is_rule_6_E {fr : Fr} {S : Store} : m_is_rule_6 fr S = (sRet (eCall 2 F_is_deed (aC (eV 4) (aC (eV 1) (aN))))) fr S := rfl
theorem m_is_rule_E {fr : Fr} {S : Store} : m_is_rule fr S = (sSeq m_is_rule_1 (sSeq m_is_rule_3 (sSeq m_is_rule_4 m_is_rule_6))) fr S := rfl
def F_is_rule : FN := bodyF 5 m_is_rule
def m_robot_error_2 : SM := sRet (eA mkTup (aC (eC .none) (aC (eC .none) (aN))))
def m_robot_error_1 : SM := sIf (bOr (bNot (bTr (e1 (isaV PyData.isTuple) (eV 0)))) (bNot (bB (eChain leV leV (eC (.int 1)) (eA1 lenV (eV 0)) (eC (.int 4)))))) (m_robot_error_2) (sNx)
def m_robot_error_5 : SM := sRet (eA mkTup (aC (eV 1) (aC (eC .none) (aN))))
def m_robot_error_4 : SM := sIf (bOr (bNot (bTr (e1 (isaV PyData.isTuple) (eV 2)))) (bB (e2 gtV (eA1 lenV (eV 2)) (eC (.int 6))))) (m_robot_error_5) (sNx)
def m_robot_error_8 : SM := sRet (eA mkTup (aC (eV 1) (aC (eV 3) (aN))))
def m_robot_error_7 : SM := sIf (bNot (bTr (eCall 2 F_is_rule (aC (eV 4) (aC (eA1 lenV (eV 0)) (aN)))))) (m_robot_error_8) (sNx)
def m_robot_error_6 : SM := sFor (ggTup 2 (ggCons (gSet 3) (ggCons (gSet 4) (ggNil)))) (iA enumV (aC (eV 2) (aN)))
    (m_robot_error_7)
def m_robot_error_3 : SM := sFor (ggTup 2 (ggCons (gSet 1) (ggCons (gSet 2) (ggNil)))) (iA enumV (aC (eV 0) (aN)))
    (sSeq m_robot_error_4 m_robot_error_6)
def m_robot_error_9 : SM := sRet (eC .none)
def m_robot_error : SM := sSeq m_robot_error_1 (sSeq m_robot_error_3 m_robot_error_9)
theorem m_robot_error_2_E {fr : Fr} {S : Store} : m_robot_error_2 fr S = (sRet (eA mkTup (aC (eC .none) (aC (eC .none) (aN))))) fr S := rfl
theorem m_robot_error_1_E {fr : Fr} {S : Store} : m_robot_error_1 fr S = (sIf (bOr (bNot (bTr (e1 (isaV PyData.isTuple) (eV 0)))) (bNot (bB (eChain leV leV (eC (.int 1)) (eA1 lenV (eV 0)) (eC (.int 4)))))) (m_robot_error_2) (sNx)) fr S := rfl
theorem m_robot_error_5_E {fr : Fr} {S : Store} : m_robot_error_5 fr S = (sRet (eA mkTup (aC (eV 1) (aC (eC .none) (aN))))) fr S := rfl
theorem m_robot_error_4_E {fr : Fr} {S : Store} : m_robot_error_4 fr S = (sIf (bOr (bNot (bTr (e1 (isaV PyData.isTuple) (eV 2)))) (bB (e2 gtV (eA1 lenV (eV 2)) (eC (.int 6))))) (m_robot_error_5) (sNx)) fr S := rfl
theorem m_robot_error_8_E {fr : Fr} {S : Store} : m_robot_error_8 fr S = (sRet (eA mkTup (aC (eV 1) (aC (eV 3) (aN))))) fr S := rfl
theorem m_robot_error_7_E {fr : Fr} {S : Store} : m_robot_error_7 fr S = (sIf (bNot (bTr (eCall 2 F_is_rule (aC (eV 4) (aC (eA1 lenV (eV 0)) (aN)))))) (m_robot_error_8) (sNx)) fr S := rfl
theorem m_robot_error_6_E {fr : Fr} {S : Store} : m_robot_error_6 fr S = (sFor (ggTup 2 (ggCons (gSet 3) (ggCons (gSet 4) (ggNil)))) (iA enumV (aC (eV 2) (aN)))
    (m_robot_error_7)) fr S := rfl
theorem m_robot_error_3_E {fr : Fr} {S : Store} : m_robot_error_3 fr S = (sFor (ggTup 2 (ggCons (gSet 1) (ggCons (gSet 2) (ggNil)))) (iA enumV (aC (eV 0) (aN)))
    (sSeq m_robot_error_4 m_robot_error_6)) fr S := rfl
theorem m_robot_error_9_E {fr : Fr} {S : Store} : m_robot_error_9 fr S = (sRet (eC .none)) fr S := rfl
theorem m_robot_error_E {fr : Fr} {S : Store} : m_robot_error fr S = (sSeq m_robot_error_1 (sSeq m_robot_error_3 m_robot_error_9)) fr S := rfl
def F_robot_error : FN := bodyF 5 m_robot_error
def m_is_robot_1 : SM := sRet (e2 (isV false) (eCall 1 F_robot_error (aC (eV 0) (aN))) (eC .none))
def m_is_robot : SM := m_is_robot_1
theorem m_is_robot_1_E {fr : Fr} {S : Store} : m_is_robot_1 fr S = (sRet (e2 (isV false) (eCall 1 F_robot_error (aC (eV 0) (aN))) (eC .none))) fr S := rfl
theorem m_is_robot_E {fr : Fr} {S : Store} : m_is_robot fr S = (m_is_robot_1) fr S := rfl
def F_is_robot : FN := bodyF 1 m_is_robot
local macro_rules
  | `(tactic| walk_at "go") => `(tactic| simp only [sSeq, ssat_next, ssat_toS, ssat_nx, ssat_rt, ssat_bk, ssat_ct, ssat_bad, ssat_ite, if_false_right, sat_ok, sat_bad, sat_exc, sat_bind, sat_ite, sPutO, sPutI, sPutD, eD, ownD, sAsg, fE, sIf, sNx, sRet, sDrop, sOwn, sApp, sExt, sPar, sFor, e1, e2, eV, eC, eA, eA1, aC, aN, eSl, oN, oS, eP, eM1, eIf, eCall, eChain, eJ, jC, jN, bB, bTr, bAnd, bOr, bNot, eAnd, eOr, eNot, bYes, iSeq, iA, ofG, ofO, fmtV, strV, tupleV, listV, iaddV, PD.eq_int, PD.eq_str, eq_self, gSet, ggNil, ggCons, ggTup, mkTup, mkLst, mkObj, asDs, asD, ownL,
      List.map_cons, List.map_nil, List.cons_append, List.nil_append, List.length_cons, List.length_nil, List.length_set, List.replicate, List.getElem?_cons_succ, List.getElem?_cons_zero, List.getElem?_nil, List.set_cons_succ, List.set_cons_zero, List.all_cons, List.all_nil, setAll, Option.map_some, Option.map_none, Option.bind_some, Option.bind_none,
      ixV, addV, subV, mulV, modV, divV, powV, negV, lenV, intV, absI, enumV, iterV, PD.slV, boolV, truthV, ltD, revA, ltV, gtV, leV, geV, isV, isNone, L2.atI, ixN, Bool.false_xor, Bool.true_xor, Bool.not_true, Bool.not_false, Bool.and_true, Bool.true_and, Bool.and_false, Bool.false_and, decide_true, decide_false, decide_eq_true_eq, Bool.and_eq_true, if_true, if_false, reduceIte, Bool.false_eq_true, Str.empty_append, List.length_append, ite_true, ite_false, true_and, and_true, Int.cast_ofNat_Int, Nat.reduceAdd, Nat.reduceSub, Nat.reduceLT, Int.reduceLT, Int.reduceLE, Int.reduceToNat, Nat.lt_add_one])
local macro_rules
  | `(tactic| walk_at "g0") => `(tactic| simp only [sSeq, ssat_next, ssat_toS, ssat_nx, ssat_rt, ssat_bk, ssat_ct, ssat_bad, ssat_ite, if_false_right, sat_ok, sat_bad, sat_exc, sat_bind, sat_ite, sPutO, sPutI, sPutD, eD, ownD, sAsg, fE, sIf, sNx, sRet, sDrop, sOwn, sApp, sExt, sPar, sFor, e1, e2, eV, eC, eA, eA1, aC, aN, eSl, oN, oS, eP, eM1, eIf, eCall, eChain, eJ, jC, jN, bB, bTr, bAnd, bOr, bNot, eAnd, eOr, eNot, bYes, iSeq, iA, ofG, ofO, fmtV, strV, tupleV, listV, iaddV, PD.eq_int, PD.eq_str, eq_self, gSet, ggNil, ggCons, ggTup, mkTup, mkLst, mkObj, asDs, asD, ownL,
      List.map_cons, List.map_nil, List.cons_append, List.nil_append, List.length_cons, List.length_nil, List.length_set, List.replicate, List.getElem?_cons_succ, List.getElem?_cons_zero, List.getElem?_nil, List.set_cons_succ, List.set_cons_zero, List.all_cons, List.all_nil, setAll, ixT0, ixT1, ixT2, ixL0, ixL1, ixL2, Option.map_some, Option.map_none, Option.bind_some, Option.bind_none,
      addV, subV, mulV, modV, divV, powV, negV, lenV, intV, absI, enumV, iterV, PD.slV, boolV, truthV, ltD, revA, ltV, gtV, leV, geV, isV, isNone, Bool.false_xor, Bool.true_xor, Bool.not_true, Bool.not_false, Bool.and_true, Bool.true_and, Bool.and_false, Bool.false_and, decide_true, decide_false, decide_eq_true_eq, Bool.and_eq_true, if_true, if_false, reduceIte, Bool.false_eq_true, Str.empty_append, List.length_append, ite_true, ite_false, true_and, and_true, Int.cast_ofNat_Int, Nat.reduceAdd, Nat.reduceSub, Nat.reduceLT, Int.reduceLT, Int.reduceLE, Int.reduceToNat, Nat.lt_add_one])
local macro_rules
  | `(tactic| walk_at "g1") => `(tactic| simp only [sSeq, ssat_next, ssat_toS, ssat_nx, ssat_rt, ssat_bk, ssat_ct, ssat_bad, ssat_ite, if_false_right, sat_ok, sat_bad, sat_exc, sat_bind, sat_ite, sPutO, sPutI, sPutD, eD, ownD, sAsg, fE, sIf, sNx, sRet, sDrop, sOwn, sApp, sExt, sPar, sFor, e1, e2, eV, eC, eA, eA1, aC, aN, eSl, oN, oS, eP, eM1, eIf, eCall, eChain, eJ, jC, jN, bB, bTr, bAnd, bOr, bNot, eAnd, eOr, eNot, bYes, iSeq, iA, ofG, ofO, fmtV, strV, tupleV, listV, iaddV, PD.eq_int, PD.eq_str, eq_self, gSet, ggNil, ggCons, ggTup, mkTup, mkLst, mkObj, asDs, asD, ownL,
      List.map_cons, List.map_nil, List.cons_append, List.nil_append, List.length_cons, List.length_nil, List.length_set, List.replicate, List.getElem?_cons_succ, List.getElem?_cons_zero, List.getElem?_nil, List.set_cons_succ, List.set_cons_zero, List.all_cons, List.all_nil, setAll, ixT0, ixT1, ixT2, ixL0, ixL1, ixL2, Option.map_some, Option.map_none, Option.bind_some, Option.bind_none,
      addV, subV, mulV, modV, divV, powV, negV, lenV, intV, absI, enumV, iterV, PD.slV, boolV, truthV, ltD, revA, ltV, gtV, leV, geV, isV, isNone, Bool.false_xor, Bool.true_xor, Bool.not_true, Bool.not_false, Bool.and_true, Bool.true_and, Bool.and_false, Bool.false_and, decide_true, decide_false, decide_eq_true_eq, Bool.and_eq_true, if_true, if_false, reduceIte, Bool.false_eq_true, Str.empty_append, List.length_append, ite_true, ite_false, true_and, and_true, Int.cast_ofNat_Int, Nat.reduceAdd, Nat.reduceSub, Nat.reduceLT, Int.reduceLT, Int.reduceSub, Int.reduceAdd, Int.reduceNeg, Int.reduceLE, Int.reduceToNat, Nat.lt_add_one])
local macro_rules
  | `(tactic| walk_at "g") => `(tactic| simp only [sSeq, ssat_next, ssat_toS, ssat_nx, ssat_rt, ssat_bk, ssat_ct, ssat_bad, ssat_ite, if_false_right, sat_ok, sat_bad, sat_exc, sat_bind, sat_ite, sPutO, sPutI, sPutD, eD, ownD, sAsg, fE, sIf, sNx, sRet, sDrop, sOwn, sApp, sExt, sPar, sFor, e1, e2, eV, eC, eA, eA1, aC, aN, eSl, oN, oS, eP, eM1, eIf, eCall, eChain, eJ, jC, jN, bB, bTr, bAnd, bOr, bNot, eAnd, eOr, eNot, bYes, iSeq, iA, ofG, ofO, fmtV, strV, tupleV, listV, iaddV, PD.eq_int, PD.eq_str, eq_self, gSet, ggNil, ggCons, ggTup, mkTup, mkLst, mkObj, asDs, asD, ownL,
      List.map_cons, List.map_nil, List.cons_append, List.nil_append, List.length_cons, List.length_nil, List.length_set, List.replicate, List.getElem?_cons_succ, List.getElem?_cons_zero, List.getElem?_nil, List.set_cons_succ, List.set_cons_zero, List.all_cons, List.all_nil, setAll, ixT0, ixT1, ixT2, ixL0, ixL1, ixL2, Option.map_some, Option.map_none, Option.bind_some, Option.bind_none,
      addV, subV, mulV, modV, divV, powV, negV, lenV, intV, absI, enumV, iterV, PD.slV, boolV, truthV, ltD, revA, ltV, gtV, leV, geV, isV, isNone, Bool.false_xor, Bool.true_xor, Bool.not_true, Bool.not_false, Bool.and_true, Bool.true_and, Bool.and_false, Bool.false_and, decide_true, decide_false, decide_eq_true_eq, Bool.and_eq_true, if_true, if_false, reduceIte, Bool.false_eq_true, Str.empty_append, List.length_append, ite_true, ite_false, true_and, and_true, Int.cast_ofNat_Int, Nat.reduceAdd, Nat.reduceSub, Nat.reduceLT, Int.reduceLT, Int.reduceSub, Int.reduceAdd, Int.reduceNeg, Int.reduceLE, Int.reduceToNat, Nat.lt_add_one, beq_iff_eq, sizeLine_eq, Nat.reduceLeDiff, inV_tup, inV_lst, eqv_str, eqv_int, eqV_nilT, cutD_tail, false_and, and_false, or_true, true_or, or_false, false_or, ixT3, Bool.true_eq_false, Bool.or_eq_false_iff, decide_eq_false_iff_not, Int.not_le, Int.not_lt, beq_self_eq_true, Int.reduceBEq, Bool.not_eq_eq_eq_not, beq_eq_false_iff_ne, ne_eq, not_true_eq_false, not_false_eq_true, List.isEmpty_cons, List.isEmpty_nil, List.any_cons, List.any_nil, Bool.or_false, Bool.or_eq_true, isaV, PyData.isInt, PyData.isStr, PyData.isBool, PyData.isTuple, PyData.isList, PyData.isDict, m_is_word_1_E, m_is_word_E, m_is_deed_2_E, m_is_deed_1_E, m_is_deed_4_E, m_is_deed_3_E, m_is_deed_5_E, m_is_deed_E, m_is_rule_2_E, m_is_rule_1_E, m_is_rule_3_E, m_is_rule_5_E, m_is_rule_4_E, m_is_rule_6_E, m_is_rule_E, m_robot_error_2_E, m_robot_error_1_E, m_robot_error_5_E, m_robot_error_4_E, m_robot_error_8_E, m_robot_error_7_E, m_robot_error_6_E, m_robot_error_3_E, m_robot_error_9_E, m_robot_error_E, m_is_robot_1_E, m_is_robot_E])
local macro_rules
  | `(tactic| walk_at "gt") => `(tactic| try walk_at "go")
local macro_rules
  | `(tactic| walk_at "gq") => `(tactic| try walk_at "g0")
local macro_rules
  | `(tactic| walk_at "len") => `(tactic| (simp only [Str.length_append, PySem.ofString_length, len_nil, sizeLine_eq] at *; omega))
local macro_rules
  | `(tactic| walk_at "fin") => `(tactic| ((repeat' apply And.intro) <;> first | assumption | exact True.intro | walk_at "len" | rfl))
local macro_rules
  | `(tactic| walk_at "start") => `(tactic| (rw [sat_body]; simp only [List.map_cons, List.map_nil, List.cons_append, List.nil_append, List.length_cons, List.length_nil, Nat.reduceAdd, Nat.reduceSub, List.replicate]))
local macro_rules
  | `(tactic| walk_at "wd") => `(tactic| first | assumption | exact Wd.none | exact Wd.bool | exact Wd.small (by decide) (by decide) | exact Wd.lit (by decide) | exact Wd.dict0 | exact Wd.tup Wds.nil | exact Wd.lst Wds.nil | (refine Wd.t1 (k := 2) (a := 990) ?_ (by decide) <;> walk_at "wd") | (refine Wd.t2 (k := 2) (a := 990) (b := 990) ?_ ?_ (by decide) <;> walk_at "wd") | (refine Wd.t3 (k := 2) (a := 990) (b := 990) (c := 990) ?_ ?_ ?_ (by decide) <;> walk_at "wd") | (refine Wd.t4 (k := 2) (a := 990) (b := 990) (c := 990) (e := 990) ?_ ?_ ?_ ?_ (by decide) <;> walk_at "wd") | (refine Wd.t1 (k := 1) (a := 240) ?_ (by decide) <;> walk_at "wd") | (refine Wd.t2 (k := 1) (a := 240) (b := 240) ?_ ?_ (by decide) <;> walk_at "wd") | (refine Wd.t3 (k := 1) (a := 240) (b := 240) (c := 240) ?_ ?_ ?_ (by decide) <;> walk_at "wd") | (refine Wd.t4 (k := 1) (a := 240) (b := 240) (c := 240) (e := 240) ?_ ?_ ?_ ?_ (by decide) <;> walk_at "wd") | (refine Wd.t1 (k := 0) (a := 55) ?_ (by decide) <;> walk_at "wd") | (refine Wd.t2 (k := 0) (a := 55) (b := 55) ?_ ?_ (by decide) <;> walk_at "wd") | (refine Wd.t3 (k := 0) (a := 55) (b := 55) (c := 55) ?_ ?_ ?_ (by decide) <;> walk_at "wd") | (refine Wd.t4 (k := 0) (a := 55) (b := 55) (c := 55) (e := 55) ?_ ?_ ?_ ?_ (by decide) <;> walk_at "wd"))
section
variable {k : Nat}
theorem findSome_none {α β : Type} {f : α → Option β} : ∀ {xs : List α}, xs.findSome? f = none ↔ ∀ x ∈ xs, f x = none
  | [] => by simp
  | x :: xs => by
    rw [List.findSome?_cons]
    cases h : f x with
    | some b => simp [h]
    | none => simp [h, findSome_none (f := f) (xs := xs)]
end
end Wk
namespace Wk
open PySem PySem.Spec PyProof.Rows L2 PD
def m_is_number_1 : SM := sRet (eAnd (e1 (isaV PyData.isInt) (eV 0)) (eAnd (eNot (e1 (isaV PyData.isBool) (eV 0))) (eChain leV leV (eV 1) (eV 0) (eV 2))))
def m_is_number : SM := m_is_number_1
theorem m_is_number_1_E {fr : Fr} {S : Store} : m_is_number_1 fr S = (sRet (eAnd (e1 (isaV PyData.isInt) (eV 0)) (eAnd (eNot (e1 (isaV PyData.isBool) (eV 0))) (eChain leV leV (eV 1) (eV 0) (eV 2))))) fr S := rfl
theorem m_is_number_E {fr : Fr} {S : Store} : m_is_number fr S = (m_is_number_1) fr S := rfl
def F_is_number : FN := bodyF 3 m_is_number
def m_is_robot_leaf_1 : SM := sPar [1, 2] 3 (aC (e2 ixV (eV 0) (eC (.int 0))) (aC (eSl (eV 0) (oS (eC (.int 1))) (oN)) (aN)))
def m_is_robot_leaf_3 : SM := sRet (eC (.bool false))
def m_is_robot_leaf_2 : SM := sIf (bOr (bB (e2 (eqV false) (eV 2) (eA mkTup (aN)))) (bNot (bTr (eCall 1 F_is_robot (aC (e2 ixV (eV 2) (eC (.int 0))) (aN)))))) (m_is_robot_leaf_3) (sNx)
def m_is_robot_leaf_5 : SM := sRet (e2 (eqV false) (eA1 lenV (eV 2)) (eC (.int 1)))
def m_is_robot_leaf_4 : SM := sIf (bB (e2 (eqV false) (eV 1) (eC (.str "sees")))) (m_is_robot_leaf_5) (sNx)
def m_is_robot_leaf_8 : SM := sRet (eC (.bool false))
def m_is_robot_leaf_7 : SM := sIf (bOr (bB (e2 (eqV true) (eA1 lenV (eV 2)) (eC (.int 3)))) (bNot (bTr (eCall 3 F_is_number (aC (e2 ixV (eV 2) (eC (.int 1))) (aC (eC (.int 0)) (aC (e2 subV (eA1 lenV (e2 ixV (eV 2) (eC (.int 0)))) (eC (.int 1))) (aN)))))))) (m_is_robot_leaf_8) (sNx)
def m_is_robot_leaf_9 : SM := sRet (eAnd (eCall 3 F_is_number (aC (e2 ixV (eV 2) (eC (.int 2))) (aC (eC (.int 0)) (aC (eC (.int 6)) (aN))))) (e2 ltD (e2 ixV (eV 2) (eC (.int 2))) (eA1 lenV (e2 ixV (e2 ixV (eV 2) (eC (.int 0))) (e2 ixV (eV 2) (eC (.int 1)))))))
def m_is_robot_leaf_6 : SM := sIf (bB (e2 (eqV false) (eV 1) (eC (.str "uses")))) (sSeq m_is_robot_leaf_7 m_is_robot_leaf_9) (sNx)
def m_is_robot_leaf_11 : SM := sRet (eC (.bool false))
def m_is_robot_leaf_10 : SM := sIf (bB (e2 (eqV true) (eA1 lenV (eV 2)) (eC (.int 2)))) (m_is_robot_leaf_11) (sNx)
def m_is_robot_leaf_13 : SM := sRet (eCall 1 F_is_sign (aC (e2 ixV (eV 2) (eC (.int 1))) (aN)))
def m_is_robot_leaf_12 : SM := sIf (bB (e2 (eqV false) (eV 1) (eC (.str "meets")))) (m_is_robot_leaf_13) (sNx)
def m_is_robot_leaf_14 : SM := sRet (eAnd (e1 (isaV PyData.isStr) (e2 ixV (eV 2) (eC (.int 1)))) (eOr (e2 (inV false) (e2 ixV (eV 2) (eC (.int 1))) (eA mkTup (aC (eC (.str "out")) (aC (eC (.str "ever")) (aC (eC (.str "lost")) (aN)))))) (eCall 1 F_is_word (aC (e2 ixV (eV 2) (eC (.int 1))) (aN)))))
def m_is_robot_leaf : SM := sSeq m_is_robot_leaf_1 (sSeq m_is_robot_leaf_2 (sSeq m_is_robot_leaf_4 (sSeq m_is_robot_leaf_6 (sSeq m_is_robot_leaf_10 (sSeq m_is_robot_leaf_12 m_is_robot_leaf_14)))))
theorem m_is_robot_leaf_1_E {fr : Fr} {S : Store} : m_is_robot_leaf_1 fr S = (sPar [1, 2] 3 (aC (e2 ixV (eV 0) (eC (.int 0))) (aC (eSl (eV 0) (oS (eC (.int 1))) (oN)) (aN)))) fr S := rfl
theorem m_is_robot_leaf_3_E {fr : Fr} {S : Store} : m_is_robot_leaf_3 fr S = (sRet (eC (.bool false))) fr S := rfl
theorem m_is_robot_leaf_2_E {fr : Fr} {S : Store} : m_is_robot_leaf_2 fr S = (sIf (bOr (bB (e2 (eqV false) (eV 2) (eA mkTup (aN)))) (bNot (bTr (eCall 1 F_is_robot (aC (e2 ixV (eV 2) (eC (.int 0))) (aN)))))) (m_is_robot_leaf_3) (sNx)) fr S := rfl
theorem m_is_robot_leaf_5_E {fr : Fr} {S : Store} : m_is_robot_leaf_5 fr S = (sRet (e2 (eqV false) (eA1 lenV (eV 2)) (eC (.int 1)))) fr S := rfl
theorem m_is_robot_leaf_4_E {fr : Fr} {S : Store} : m_is_robot_leaf_4 fr S = (sIf (bB (e2 (eqV false) (eV 1) (eC (.str "sees")))) (m_is_robot_leaf_5) (sNx)) fr S := rfl
theorem m_is_robot_leaf_8_E {fr : Fr} {S : Store} : m_is_robot_leaf_8 fr S = (sRet (eC (.bool false))) fr S := rfl
theorem m_is_robot_leaf_7_E {fr : Fr} {S : Store} : m_is_robot_leaf_7 fr S = (sIf (bOr (bB (e2 (eqV true) (eA1 lenV (eV 2)) (eC (.int 3)))) (bNot (bTr (eCall 3 F_is_number (aC (e2 ixV (eV 2) (eC (.int 1))) (aC (eC (.int 0)) (aC (e2 subV (eA1 lenV (e2 ixV (eV 2) (eC (.int 0)))) (eC (.int 1))) (aN)))))))) (m_is_robot_leaf_8) (sNx)) fr S := rfl
theorem m_is_robot_leaf_9_E {fr : Fr} {S : Store} : m_is_robot_leaf_9 fr S = (sRet (eAnd (eCall 3 F_is_number (aC (e2 ixV (eV 2) (eC (.int 2))) (aC (eC (.int 0)) (aC (eC (.int 6)) (aN))))) (e2 ltD (e2 ixV (eV 2) (eC (.int 2))) (eA1 lenV (e2 ixV (e2 ixV (eV 2) (eC (.int 0))) (e2 ixV (eV 2) (eC (.int 1)))))))) fr S := rfl
theorem m_is_robot_leaf_6_E {fr : Fr} {S : Store} : m_is_robot_leaf_6 fr S = (sIf (bB (e2 (eqV false) (eV 1) (eC (.str "uses")))) (sSeq m_is_robot_leaf_7 m_is_robot_leaf_9) (sNx)) fr S := rfl
theorem m_is_robot_leaf_11_E {fr : Fr} {S : Store} : m_is_robot_leaf_11 fr S = (sRet (eC (.bool false))) fr S := rfl
theorem m_is_robot_leaf_10_E {fr : Fr} {S : Store} : m_is_robot_leaf_10 fr S = (sIf (bB (e2 (eqV true) (eA1 lenV (eV 2)) (eC (.int 2)))) (m_is_robot_leaf_11) (sNx)) fr S := rfl
theorem m_is_robot_leaf_13_E {fr : Fr} {S : Store} : m_is_robot_leaf_13 fr S = (sRet (eCall 1 F_is_sign (aC (e2 ixV (eV 2) (eC (.int 1))) (aN)))) fr S := rfl
theorem m_is_robot_leaf_12_E {fr : Fr} {S : Store} : m_is_robot_leaf_12 fr S = (sIf (bB (e2 (eqV false) (eV 1) (eC (.str "meets")))) (m_is_robot_leaf_13) (sNx)) fr S := rfl
theorem m_is_robot_leaf_14_E {fr : Fr} {S : Store} : m_is_robot_leaf_14 fr S = (sRet (eAnd (e1 (isaV PyData.isStr) (e2 ixV (eV 2) (eC (.int 1)))) (eOr (e2 (inV false) (e2 ixV (eV 2) (eC (.int 1))) (eA mkTup (aC (eC (.str "out")) (aC (eC (.str "ever")) (aC (eC (.str "lost")) (aN)))))) (eCall 1 F_is_word (aC (e2 ixV (eV 2) (eC (.int 1))) (aN)))))) fr S := rfl
theorem m_is_robot_leaf_E {fr : Fr} {S : Store} : m_is_robot_leaf fr S = (sSeq m_is_robot_leaf_1 (sSeq m_is_robot_leaf_2 (sSeq m_is_robot_leaf_4 (sSeq m_is_robot_leaf_6 (sSeq m_is_robot_leaf_10 (sSeq m_is_robot_leaf_12 m_is_robot_leaf_14)))))) fr S := rfl
def F_is_robot_leaf : FN := bodyF 3 m_is_robot_leaf
def m_is_other_leaf_2 : SM := sRet (eAnd (eCall 1 F_is_sign (aC (e2 ixV (eV 0) (eC (.int 1))) (aN))) (eAnd (eCall 3 F_is_number (aC (e2 ixV (eV 0) (eC (.int 2))) (aC (eC (.int 1)) (aC (eC (.int 4)) (aN))))) (eCall 3 F_is_number (aC (e2 ixV (eV 0) (eC (.int 3))) (aC (eC (.int 0)) (aC (e2 subV (e2 ixV (eV 0) (eC (.int 2))) (eC (.int 1))) (aN)))))))
def m_is_other_leaf_1 : SM := sIf (bAnd (bB (e2 (eqV false) (e2 ixV (eV 0) (eC (.int 0))) (eC (.str "count")))) (bB (e2 (eqV false) (eA1 lenV (eV 0)) (eC (.int 4))))) (m_is_other_leaf_2) (sNx)
def m_is_other_leaf_3 : SM := sRet (eAnd (e2 (eqV false) (e2 ixV (eV 0) (eC (.int 0))) (eC (.str "deep"))) (eAnd (e2 (eqV false) (eA1 lenV (eV 0)) (eC (.int 2))) (eCall 3 F_is_number (aC (e2 ixV (eV 0) (eC (.int 1))) (aC (eC (.int 1)) (aC (eC (.int 6)) (aN)))))))
def m_is_other_leaf : SM := sSeq m_is_other_leaf_1 m_is_other_leaf_3
theorem m_is_other_leaf_2_E {fr : Fr} {S : Store} : m_is_other_leaf_2 fr S = (sRet (eAnd (eCall 1 F_is_sign (aC (e2 ixV (eV 0) (eC (.int 1))) (aN))) (eAnd (eCall 3 F_is_number (aC (e2 ixV (eV 0) (eC (.int 2))) (aC (eC (.int 1)) (aC (eC (.int 4)) (aN))))) (eCall 3 F_is_number (aC (e2 ixV (eV 0) (eC (.int 3))) (aC (eC (.int 0)) (aC (e2 subV (e2 ixV (eV 0) (eC (.int 2))) (eC (.int 1))) (aN)))))))) fr S := rfl
theorem m_is_other_leaf_1_E {fr : Fr} {S : Store} : m_is_other_leaf_1 fr S = (sIf (bAnd (bB (e2 (eqV false) (e2 ixV (eV 0) (eC (.int 0))) (eC (.str "count")))) (bB (e2 (eqV false) (eA1 lenV (eV 0)) (eC (.int 4))))) (m_is_other_leaf_2) (sNx)) fr S := rfl
theorem m_is_other_leaf_3_E {fr : Fr} {S : Store} : m_is_other_leaf_3 fr S = (sRet (eAnd (e2 (eqV false) (e2 ixV (eV 0) (eC (.int 0))) (eC (.str "deep"))) (eAnd (e2 (eqV false) (eA1 lenV (eV 0)) (eC (.int 2))) (eCall 3 F_is_number (aC (e2 ixV (eV 0) (eC (.int 1))) (aC (eC (.int 1)) (aC (eC (.int 6)) (aN)))))))) fr S := rfl
theorem m_is_other_leaf_E {fr : Fr} {S : Store} : m_is_other_leaf fr S = (sSeq m_is_other_leaf_1 m_is_other_leaf_3) fr S := rfl
def F_is_other_leaf : FN := bodyF 1 m_is_other_leaf
def m_inner_1 : SM := sRet (eIf (bB (e2 (inV false) (e2 ixV (eV 0) (eC (.int 0))) (eA mkTup (aC (eC (.str "not")) (aC (eC (.str "and")) (aC (eC (.str "or")) (aN))))))) (eSl (eV 0) (oS (eC (.int 1))) (oN)) (eA mkTup (aN)))
def m_inner : SM := m_inner_1
theorem m_inner_1_E {fr : Fr} {S : Store} : m_inner_1 fr S = (sRet (eIf (bB (e2 (inV false) (e2 ixV (eV 0) (eC (.int 0))) (eA mkTup (aC (eC (.str "not")) (aC (eC (.str "and")) (aC (eC (.str "or")) (aN))))))) (eSl (eV 0) (oS (eC (.int 1))) (oN)) (eA mkTup (aN)))) fr S := rfl
theorem m_inner_E {fr : Fr} {S : Store} : m_inner fr S = (m_inner_1) fr S := rfl
def F_inner : FN := bodyF 1 m_inner
def m_is_part_2 : SM := sRet (eC (.bool false))
def m_is_part_1 : SM := sIf (bOr (bNot (bTr (e1 (isaV PyData.isTuple) (eV 0)))) (bOr (bB (e2 (eqV false) (eV 0) (eA mkTup (aN)))) (bNot (bTr (e1 (isaV PyData.isStr) (e2 ixV (eV 0) (eC (.int 0)))))))) (m_is_part_2) (sNx)
def m_is_part_4 : SM := sRet (e2 (eqV false) (eA1 lenV (eV 0)) (eC (.int 2)))
def m_is_part_3 : SM := sIf (bB (e2 (eqV false) (e2 ixV (eV 0) (eC (.int 0))) (eC (.str "not")))) (m_is_part_4) (sNx)
def m_is_part_6 : SM := sRet (e2 (eqV false) (eA1 lenV (eV 0)) (eC (.int 3)))
def m_is_part_5 : SM := sIf (bB (e2 (inV false) (e2 ixV (eV 0) (eC (.int 0))) (eA mkTup (aC (eC (.str "and")) (aC (eC (.str "or")) (aN)))))) (m_is_part_6) (sNx)
def m_is_part_7 : SM := sRet (eIf (bB (e2 (inV false) (e2 ixV (eV 0) (eC (.int 0))) (eC (.tuple [.str "is", .str "meets", .str "uses", .str "sees"])))) (eCall 1 F_is_robot_leaf (aC (eV 0) (aN))) (eCall 1 F_is_other_leaf (aC (eV 0) (aN))))
def m_is_part : SM := sSeq m_is_part_1 (sSeq m_is_part_3 (sSeq m_is_part_5 m_is_part_7))
theorem m_is_part_2_E {fr : Fr} {S : Store} : m_is_part_2 fr S = (sRet (eC (.bool false))) fr S := rfl
theorem m_is_part_1_E {fr : Fr} {S : Store} : m_is_part_1 fr S = (sIf (bOr (bNot (bTr (e1 (isaV PyData.isTuple) (eV 0)))) (bOr (bB (e2 (eqV false) (eV 0) (eA mkTup (aN)))) (bNot (bTr (e1 (isaV PyData.isStr) (e2 ixV (eV 0) (eC (.int 0)))))))) (m_is_part_2) (sNx)) fr S := rfl
theorem m_is_part_4_E {fr : Fr} {S : Store} : m_is_part_4 fr S = (sRet (e2 (eqV false) (eA1 lenV (eV 0)) (eC (.int 2)))) fr S := rfl
theorem m_is_part_3_E {fr : Fr} {S : Store} : m_is_part_3 fr S = (sIf (bB (e2 (eqV false) (e2 ixV (eV 0) (eC (.int 0))) (eC (.str "not")))) (m_is_part_4) (sNx)) fr S := rfl
theorem m_is_part_6_E {fr : Fr} {S : Store} : m_is_part_6 fr S = (sRet (e2 (eqV false) (eA1 lenV (eV 0)) (eC (.int 3)))) fr S := rfl
theorem m_is_part_5_E {fr : Fr} {S : Store} : m_is_part_5 fr S = (sIf (bB (e2 (inV false) (e2 ixV (eV 0) (eC (.int 0))) (eA mkTup (aC (eC (.str "and")) (aC (eC (.str "or")) (aN)))))) (m_is_part_6) (sNx)) fr S := rfl
theorem m_is_part_7_E {fr : Fr} {S : Store} : m_is_part_7 fr S = (sRet (eIf (bB (e2 (inV false) (e2 ixV (eV 0) (eC (.int 0))) (eC (.tuple [.str "is", .str "meets", .str "uses", .str "sees"])))) (eCall 1 F_is_robot_leaf (aC (eV 0) (aN))) (eCall 1 F_is_other_leaf (aC (eV 0) (aN))))) fr S := rfl
theorem m_is_part_E {fr : Fr} {S : Store} : m_is_part fr S = (sSeq m_is_part_1 (sSeq m_is_part_3 (sSeq m_is_part_5 m_is_part_7))) fr S := rfl
def F_is_part : FN := bodyF 1 m_is_part
def m_wrong_part_2_ (F_wrong_part_ : FN) : SM := sRet (eV 1)
def m_wrong_part_1_ (F_wrong_part_ : FN) : SM := sIf (bOr (bB (e2 geV (eA1 lenV (eV 1)) (eC (.int 4)))) (bNot (bTr (eCall 1 F_is_part (aC (eV 0) (aN)))))) ((m_wrong_part_2_ F_wrong_part_)) (sNx)
def m_wrong_part_4_ (F_wrong_part_ : FN) : SM := sAsg (gSet 4) (fE (eCall 2 F_wrong_part_ (aC (eV 3) (aC (e2 addV (eV 1) (eA mkTup (aC (e2 addV (eV 2) (eC (.int 1))) (aN)))) (aN)))))
def m_wrong_part_6_ (F_wrong_part_ : FN) : SM := sRet (eV 4)
def m_wrong_part_5_ (F_wrong_part_ : FN) : SM := sIf (bB (e2 (isV true) (eV 4) (eC .none))) ((m_wrong_part_6_ F_wrong_part_)) (sNx)
def m_wrong_part_3_ (F_wrong_part_ : FN) : SM := sFor (ggTup 2 (ggCons (gSet 2) (ggCons (gSet 3) (ggNil)))) (iA enumV (aC (eCall 1 F_inner (aC (eV 0) (aN))) (aN)))
    (sSeq (m_wrong_part_4_ F_wrong_part_) (m_wrong_part_5_ F_wrong_part_))
def m_wrong_part_7_ (F_wrong_part_ : FN) : SM := sRet (eC .none)
def m_wrong_part_ (F_wrong_part_ : FN) : SM := sSeq (m_wrong_part_1_ F_wrong_part_) (sSeq (m_wrong_part_3_ F_wrong_part_) (m_wrong_part_7_ F_wrong_part_))
theorem m_wrong_part_2_E {F_wrong_part_ : FN} {fr : Fr} {S : Store} : m_wrong_part_2_ F_wrong_part_ fr S = (sRet (eV 1)) fr S := rfl
theorem m_wrong_part_1_E {F_wrong_part_ : FN} {fr : Fr} {S : Store} : m_wrong_part_1_ F_wrong_part_ fr S = (sIf (bOr (bB (e2 geV (eA1 lenV (eV 1)) (eC (.int 4)))) (bNot (bTr (eCall 1 F_is_part (aC (eV 0) (aN)))))) ((m_wrong_part_2_ F_wrong_part_)) (sNx)) fr S := rfl
theorem m_wrong_part_4_E {F_wrong_part_ : FN} {fr : Fr} {S : Store} : m_wrong_part_4_ F_wrong_part_ fr S = (sAsg (gSet 4) (fE (eCall 2 F_wrong_part_ (aC (eV 3) (aC (e2 addV (eV 1) (eA mkTup (aC (e2 addV (eV 2) (eC (.int 1))) (aN)))) (aN)))))) fr S := rfl
theorem m_wrong_part_6_E {F_wrong_part_ : FN} {fr : Fr} {S : Store} : m_wrong_part_6_ F_wrong_part_ fr S = (sRet (eV 4)) fr S := rfl
theorem m_wrong_part_5_E {F_wrong_part_ : FN} {fr : Fr} {S : Store} : m_wrong_part_5_ F_wrong_part_ fr S = (sIf (bB (e2 (isV true) (eV 4) (eC .none))) ((m_wrong_part_6_ F_wrong_part_)) (sNx)) fr S := rfl
theorem m_wrong_part_3_E {F_wrong_part_ : FN} {fr : Fr} {S : Store} : m_wrong_part_3_ F_wrong_part_ fr S = (sFor (ggTup 2 (ggCons (gSet 2) (ggCons (gSet 3) (ggNil)))) (iA enumV (aC (eCall 1 F_inner (aC (eV 0) (aN))) (aN)))
    (sSeq (m_wrong_part_4_ F_wrong_part_) (m_wrong_part_5_ F_wrong_part_))) fr S := rfl
theorem m_wrong_part_7_E {F_wrong_part_ : FN} {fr : Fr} {S : Store} : m_wrong_part_7_ F_wrong_part_ fr S = (sRet (eC .none)) fr S := rfl
theorem m_wrong_part_E {F_wrong_part_ : FN} {fr : Fr} {S : Store} : m_wrong_part_ F_wrong_part_ fr S = (sSeq (m_wrong_part_1_ F_wrong_part_) (sSeq (m_wrong_part_3_ F_wrong_part_) (m_wrong_part_7_ F_wrong_part_))) fr S := rfl
def F_wrong_part : Nat → FN
  | 0 => fun _ _ => .bad
  | n + 1 => bodyF 5 (m_wrong_part_ (F_wrong_part n))
def m_leaves_of_2_ (F_leaves_of_ : FN) : SM := sRet (eA mkTup (aC (eV 0) (aN)))
def m_leaves_of_1_ (F_leaves_of_ : FN) : SM := sIf (bB (e2 (eqV false) (eCall 1 F_inner (aC (eV 0) (aN))) (eA mkTup (aN)))) ((m_leaves_of_2_ F_leaves_of_)) (sNx)
def m_leaves_of_3_ (F_leaves_of_ : FN) : SM := sAsg (gSet 1) (fE (eA mkTup (aN)))
def m_leaves_of_5_ (F_leaves_of_ : FN) : SM := sAsg (gSet 1) (fE (e2 addV (eV 1) (eCall 1 F_leaves_of_ (aC (eV 2) (aN)))))
def m_leaves_of_4_ (F_leaves_of_ : FN) : SM := sFor (gSet 2) (iSeq (eCall 1 F_inner (aC (eV 0) (aN))))
    ((m_leaves_of_5_ F_leaves_of_))
def m_leaves_of_6_ (F_leaves_of_ : FN) : SM := sRet (eV 1)
def m_leaves_of_ (F_leaves_of_ : FN) : SM := sSeq (m_leaves_of_1_ F_leaves_of_) (sSeq (m_leaves_of_3_ F_leaves_of_) (sSeq (m_leaves_of_4_ F_leaves_of_) (m_leaves_of_6_ F_leaves_of_)))
theorem m_leaves_of_2_E {F_leaves_of_ : FN} {fr : Fr} {S : Store} : m_leaves_of_2_ F_leaves_of_ fr S = (sRet (eA mkTup (aC (eV 0) (aN)))) fr S := rfl
theorem m_leaves_of_1_E {F_leaves_of_ : FN} {fr : Fr} {S : Store} : m_leaves_of_1_ F_leaves_of_ fr S = (sIf (bB (e2 (eqV false) (eCall 1 F_inner (aC (eV 0) (aN))) (eA mkTup (aN)))) ((m_leaves_of_2_ F_leaves_of_)) (sNx)) fr S := rfl
theorem m_leaves_of_3_E {F_leaves_of_ : FN} {fr : Fr} {S : Store} : m_leaves_of_3_ F_leaves_of_ fr S = (sAsg (gSet 1) (fE (eA mkTup (aN)))) fr S := rfl
theorem m_leaves_of_5_E {F_leaves_of_ : FN} {fr : Fr} {S : Store} : m_leaves_of_5_ F_leaves_of_ fr S = (sAsg (gSet 1) (fE (e2 addV (eV 1) (eCall 1 F_leaves_of_ (aC (eV 2) (aN)))))) fr S := rfl
theorem m_leaves_of_4_E {F_leaves_of_ : FN} {fr : Fr} {S : Store} : m_leaves_of_4_ F_leaves_of_ fr S = (sFor (gSet 2) (iSeq (eCall 1 F_inner (aC (eV 0) (aN))))
    ((m_leaves_of_5_ F_leaves_of_))) fr S := rfl
theorem m_leaves_of_6_E {F_leaves_of_ : FN} {fr : Fr} {S : Store} : m_leaves_of_6_ F_leaves_of_ fr S = (sRet (eV 1)) fr S := rfl
theorem m_leaves_of_E {F_leaves_of_ : FN} {fr : Fr} {S : Store} : m_leaves_of_ F_leaves_of_ fr S = (sSeq (m_leaves_of_1_ F_leaves_of_) (sSeq (m_leaves_of_3_ F_leaves_of_) (sSeq (m_leaves_of_4_ F_leaves_of_) (m_leaves_of_6_ F_leaves_of_)))) fr S := rfl
def F_leaves_of : Nat → FN
  | 0 => fun _ _ => .bad
  | n + 1 => bodyF 3 (m_leaves_of_ (F_leaves_of n))
def m_saying_error_1 : SM := sAsg (gSet 1) (fE (eCall 2 (F_wrong_part 100) (aC (eV 0) (aC (eA mkTup (aN)) (aN)))))
def m_saying_error_3 : SM := sRet (eA mkTup (aC (eV 1) (aC (eC (.str "saying")) (aN))))
def m_saying_error_2 : SM := sIf (bB (e2 (isV true) (eV 1) (eC .none))) (m_saying_error_3) (sNx)
def m_saying_error_4 : SM := sRet (eIf (bB (e2 gtV (eA1 lenV (eCall 1 (F_leaves_of 100) (aC (eV 0) (aN)))) (eC (.int 3)))) (eA mkTup (aC (eA mkTup (aN)) (aC (eC (.str "leaves")) (aN)))) (eC .none))
def m_saying_error : SM := sSeq m_saying_error_1 (sSeq m_saying_error_2 m_saying_error_4)
theorem m_saying_error_1_E {fr : Fr} {S : Store} : m_saying_error_1 fr S = (sAsg (gSet 1) (fE (eCall 2 (F_wrong_part 100) (aC (eV 0) (aC (eA mkTup (aN)) (aN)))))) fr S := rfl
theorem m_saying_error_3_E {fr : Fr} {S : Store} : m_saying_error_3 fr S = (sRet (eA mkTup (aC (eV 1) (aC (eC (.str "saying")) (aN))))) fr S := rfl
theorem m_saying_error_2_E {fr : Fr} {S : Store} : m_saying_error_2 fr S = (sIf (bB (e2 (isV true) (eV 1) (eC .none))) (m_saying_error_3) (sNx)) fr S := rfl
theorem m_saying_error_4_E {fr : Fr} {S : Store} : m_saying_error_4 fr S = (sRet (eIf (bB (e2 gtV (eA1 lenV (eCall 1 (F_leaves_of 100) (aC (eV 0) (aN)))) (eC (.int 3)))) (eA mkTup (aC (eA mkTup (aN)) (aC (eC (.str "leaves")) (aN)))) (eC .none))) fr S := rfl
theorem m_saying_error_E {fr : Fr} {S : Store} : m_saying_error fr S = (sSeq m_saying_error_1 (sSeq m_saying_error_2 m_saying_error_4)) fr S := rfl
local macro_rules
  | `(tactic| walk_at "go") => `(tactic| simp only [sSeq, ssat_next, ssat_toS, ssat_nx, ssat_rt, ssat_bk, ssat_ct, ssat_bad, ssat_ite, if_false_right, sat_ok, sat_bad, sat_exc, sat_bind, sat_ite, sPutO, sPutI, sPutD, eD, ownD, sAsg, fE, sIf, sNx, sRet, sDrop, sOwn, sApp, sExt, sPar, sFor, e1, e2, eV, eC, eA, eA1, aC, aN, eSl, oN, oS, eP, eM1, eIf, eCall, eChain, eJ, jC, jN, bB, bTr, bAnd, bOr, bNot, eAnd, eOr, eNot, bYes, iSeq, iA, ofG, ofO, fmtV, strV, tupleV, listV, iaddV, PD.eq_int, PD.eq_str, eq_self, gSet, ggNil, ggCons, ggTup, mkTup, mkLst, mkObj, asDs, asD, ownL,
      List.map_cons, List.map_nil, List.cons_append, List.nil_append, List.length_cons, List.length_nil, List.length_set, List.replicate, List.getElem?_cons_succ, List.getElem?_cons_zero, List.getElem?_nil, List.set_cons_succ, List.set_cons_zero, List.all_cons, List.all_nil, setAll, Option.map_some, Option.map_none, Option.bind_some, Option.bind_none,
      ixV, addV, subV, mulV, modV, divV, powV, negV, lenV, intV, absI, enumV, iterV, PD.slV, boolV, truthV, ltD, revA, ltV, gtV, leV, geV, isV, isNone, L2.atI, ixN, Bool.false_xor, Bool.true_xor, Bool.not_true, Bool.not_false, Bool.and_true, Bool.true_and, Bool.and_false, Bool.false_and, decide_true, decide_false, decide_eq_true_eq, Bool.and_eq_true, if_true, if_false, reduceIte, Bool.false_eq_true, Str.empty_append, List.length_append, ite_true, ite_false, true_and, and_true, Int.cast_ofNat_Int, Nat.reduceAdd, Nat.reduceSub, Nat.reduceLT, Int.reduceLT, Int.reduceLE, Int.reduceToNat, Nat.lt_add_one])
local macro_rules
  | `(tactic| walk_at "g0") => `(tactic| simp only [sSeq, ssat_next, ssat_toS, ssat_nx, ssat_rt, ssat_bk, ssat_ct, ssat_bad, ssat_ite, if_false_right, sat_ok, sat_bad, sat_exc, sat_bind, sat_ite, sPutO, sPutI, sPutD, eD, ownD, sAsg, fE, sIf, sNx, sRet, sDrop, sOwn, sApp, sExt, sPar, sFor, e1, e2, eV, eC, eA, eA1, aC, aN, eSl, oN, oS, eP, eM1, eIf, eCall, eChain, eJ, jC, jN, bB, bTr, bAnd, bOr, bNot, eAnd, eOr, eNot, bYes, iSeq, iA, ofG, ofO, fmtV, strV, tupleV, listV, iaddV, PD.eq_int, PD.eq_str, eq_self, gSet, ggNil, ggCons, ggTup, mkTup, mkLst, mkObj, asDs, asD, ownL,
      List.map_cons, List.map_nil, List.cons_append, List.nil_append, List.length_cons, List.length_nil, List.length_set, List.replicate, List.getElem?_cons_succ, List.getElem?_cons_zero, List.getElem?_nil, List.set_cons_succ, List.set_cons_zero, List.all_cons, List.all_nil, setAll, ixT0, ixT1, ixT2, ixL0, ixL1, ixL2, Option.map_some, Option.map_none, Option.bind_some, Option.bind_none,
      addV, subV, mulV, modV, divV, powV, negV, lenV, intV, absI, enumV, iterV, PD.slV, boolV, truthV, ltD, revA, ltV, gtV, leV, geV, isV, isNone, Bool.false_xor, Bool.true_xor, Bool.not_true, Bool.not_false, Bool.and_true, Bool.true_and, Bool.and_false, Bool.false_and, decide_true, decide_false, decide_eq_true_eq, Bool.and_eq_true, if_true, if_false, reduceIte, Bool.false_eq_true, Str.empty_append, List.length_append, ite_true, ite_false, true_and, and_true, Int.cast_ofNat_Int, Nat.reduceAdd, Nat.reduceSub, Nat.reduceLT, Int.reduceLT, Int.reduceLE, Int.reduceToNat, Nat.lt_add_one])
local macro_rules
  | `(tactic| walk_at "g1") => `(tactic| simp only [sSeq, ssat_next, ssat_toS, ssat_nx, ssat_rt, ssat_bk, ssat_ct, ssat_bad, ssat_ite, if_false_right, sat_ok, sat_bad, sat_exc, sat_bind, sat_ite, sPutO, sPutI, sPutD, eD, ownD, sAsg, fE, sIf, sNx, sRet, sDrop, sOwn, sApp, sExt, sPar, sFor, e1, e2, eV, eC, eA, eA1, aC, aN, eSl, oN, oS, eP, eM1, eIf, eCall, eChain, eJ, jC, jN, bB, bTr, bAnd, bOr, bNot, eAnd, eOr, eNot, bYes, iSeq, iA, ofG, ofO, fmtV, strV, tupleV, listV, iaddV, PD.eq_int, PD.eq_str, eq_self, gSet, ggNil, ggCons, ggTup, mkTup, mkLst, mkObj, asDs, asD, ownL,
      List.map_cons, List.map_nil, List.cons_append, List.nil_append, List.length_cons, List.length_nil, List.length_set, List.replicate, List.getElem?_cons_succ, List.getElem?_cons_zero, List.getElem?_nil, List.set_cons_succ, List.set_cons_zero, List.all_cons, List.all_nil, setAll, ixT0, ixT1, ixT2, ixL0, ixL1, ixL2, Option.map_some, Option.map_none, Option.bind_some, Option.bind_none,
      addV, subV, mulV, modV, divV, powV, negV, lenV, intV, absI, enumV, iterV, PD.slV, boolV, truthV, ltD, revA, ltV, gtV, leV, geV, isV, isNone, Bool.false_xor, Bool.true_xor, Bool.not_true, Bool.not_false, Bool.and_true, Bool.true_and, Bool.and_false, Bool.false_and, decide_true, decide_false, decide_eq_true_eq, Bool.and_eq_true, if_true, if_false, reduceIte, Bool.false_eq_true, Str.empty_append, List.length_append, ite_true, ite_false, true_and, and_true, Int.cast_ofNat_Int, Nat.reduceAdd, Nat.reduceSub, Nat.reduceLT, Int.reduceLT, Int.reduceSub, Int.reduceAdd, Int.reduceNeg, Int.reduceLE, Int.reduceToNat, Nat.lt_add_one])
local macro_rules
  | `(tactic| walk_at "g") => `(tactic| simp only [sSeq, ssat_next, ssat_toS, ssat_nx, ssat_rt, ssat_bk, ssat_ct, ssat_bad, ssat_ite, if_false_right, sat_ok, sat_bad, sat_exc, sat_bind, sat_ite, sPutO, sPutI, sPutD, eD, ownD, sAsg, fE, sIf, sNx, sRet, sDrop, sOwn, sApp, sExt, sPar, sFor, e1, e2, eV, eC, eA, eA1, aC, aN, eSl, oN, oS, eP, eM1, eIf, eCall, eChain, eJ, jC, jN, bB, bTr, bAnd, bOr, bNot, eAnd, eOr, eNot, bYes, iSeq, iA, ofG, ofO, fmtV, strV, tupleV, listV, iaddV, PD.eq_int, PD.eq_str, eq_self, gSet, ggNil, ggCons, ggTup, mkTup, mkLst, mkObj, asDs, asD, ownL,
      List.map_cons, List.map_nil, List.cons_append, List.nil_append, List.length_cons, List.length_nil, List.length_set, List.replicate, List.getElem?_cons_succ, List.getElem?_cons_zero, List.getElem?_nil, List.set_cons_succ, List.set_cons_zero, List.all_cons, List.all_nil, setAll, ixT0, ixT1, ixT2, ixL0, ixL1, ixL2, Option.map_some, Option.map_none, Option.bind_some, Option.bind_none,
      addV, subV, mulV, modV, divV, powV, negV, lenV, intV, absI, enumV, iterV, PD.slV, boolV, truthV, ltD, revA, ltV, gtV, leV, geV, isV, isNone, Bool.false_xor, Bool.true_xor, Bool.not_true, Bool.not_false, Bool.and_true, Bool.true_and, Bool.and_false, Bool.false_and, decide_true, decide_false, decide_eq_true_eq, Bool.and_eq_true, if_true, if_false, reduceIte, Bool.false_eq_true, Str.empty_append, List.length_append, ite_true, ite_false, true_and, and_true, Int.cast_ofNat_Int, Nat.reduceAdd, Nat.reduceSub, Nat.reduceLT, Int.reduceLT, Int.reduceSub, Int.reduceAdd, Int.reduceNeg, Int.reduceLE, Int.reduceToNat, Nat.lt_add_one, beq_iff_eq, sizeLine_eq, Nat.reduceLeDiff, inV_tup, inV_lst, eqv_str, eqv_int, eqV_nilT, cutD_tail, false_and, and_false, or_true, true_or, or_false, false_or, ixT3, Bool.true_eq_false, Bool.or_eq_false_iff, decide_eq_false_iff_not, Int.not_le, Int.not_lt, beq_self_eq_true, Int.reduceBEq, Bool.not_eq_eq_eq_not, beq_eq_false_iff_ne, ne_eq, not_true_eq_false, not_false_eq_true, List.isEmpty_cons, List.isEmpty_nil, List.any_cons, List.any_nil, Bool.or_false, Bool.or_eq_true, isaV, PyData.isInt, PyData.isStr, PyData.isBool, PyData.isTuple, PyData.isList, PyData.isDict, m_is_number_1_E, m_is_number_E, m_is_robot_leaf_1_E, m_is_robot_leaf_3_E, m_is_robot_leaf_2_E, m_is_robot_leaf_5_E, m_is_robot_leaf_4_E, m_is_robot_leaf_8_E, m_is_robot_leaf_7_E, m_is_robot_leaf_9_E, m_is_robot_leaf_6_E, m_is_robot_leaf_11_E, m_is_robot_leaf_10_E, m_is_robot_leaf_13_E, m_is_robot_leaf_12_E, m_is_robot_leaf_14_E, m_is_robot_leaf_E, m_is_other_leaf_2_E, m_is_other_leaf_1_E, m_is_other_leaf_3_E, m_is_other_leaf_E, m_inner_1_E, m_inner_E, m_is_part_2_E, m_is_part_1_E, m_is_part_4_E, m_is_part_3_E, m_is_part_6_E, m_is_part_5_E, m_is_part_7_E, m_is_part_E, m_wrong_part_2_E, m_wrong_part_1_E, m_wrong_part_4_E, m_wrong_part_6_E, m_wrong_part_5_E, m_wrong_part_3_E, m_wrong_part_7_E, m_wrong_part_E, m_leaves_of_2_E, m_leaves_of_1_E, m_leaves_of_3_E, m_leaves_of_5_E, m_leaves_of_4_E, m_leaves_of_6_E, m_leaves_of_E, m_saying_error_1_E, m_saying_error_3_E, m_saying_error_2_E, m_saying_error_4_E, m_saying_error_E])
local macro_rules
  | `(tactic| walk_at "gt") => `(tactic| try walk_at "go")
local macro_rules
  | `(tactic| walk_at "gq") => `(tactic| try walk_at "g0")
local macro_rules
  | `(tactic| walk_at "len") => `(tactic| (simp only [Str.length_append, PySem.ofString_length, len_nil, sizeLine_eq] at *; omega))
local macro_rules
  | `(tactic| walk_at "fin") => `(tactic| ((repeat' apply And.intro) <;> first | assumption | exact True.intro | walk_at "len" | rfl))
local macro_rules
  | `(tactic| walk_at "start") => `(tactic| (rw [sat_body]; simp only [List.map_cons, List.map_nil, List.cons_append, List.nil_append, List.length_cons, List.length_nil, Nat.reduceAdd, Nat.reduceSub, List.replicate]))
local macro_rules
  | `(tactic| walk_at "wd") => `(tactic| first | assumption | exact Wd.none | exact Wd.bool | exact Wd.small (by decide) (by decide) | exact Wd.lit (by decide) | exact Wd.dict0 | exact Wd.tup Wds.nil | exact Wd.lst Wds.nil | (refine Wd.t1 (k := 2) (a := 990) ?_ (by decide) <;> walk_at "wd") | (refine Wd.t2 (k := 2) (a := 990) (b := 990) ?_ ?_ (by decide) <;> walk_at "wd") | (refine Wd.t3 (k := 2) (a := 990) (b := 990) (c := 990) ?_ ?_ ?_ (by decide) <;> walk_at "wd") | (refine Wd.t4 (k := 2) (a := 990) (b := 990) (c := 990) (e := 990) ?_ ?_ ?_ ?_ (by decide) <;> walk_at "wd") | (refine Wd.t1 (k := 1) (a := 240) ?_ (by decide) <;> walk_at "wd") | (refine Wd.t2 (k := 1) (a := 240) (b := 240) ?_ ?_ (by decide) <;> walk_at "wd") | (refine Wd.t3 (k := 1) (a := 240) (b := 240) (c := 240) ?_ ?_ ?_ (by decide) <;> walk_at "wd") | (refine Wd.t4 (k := 1) (a := 240) (b := 240) (c := 240) (e := 240) ?_ ?_ ?_ ?_ (by decide) <;> walk_at "wd") | (refine Wd.t1 (k := 0) (a := 55) ?_ (by decide) <;> walk_at "wd") | (refine Wd.t2 (k := 0) (a := 55) (b := 55) ?_ ?_ (by decide) <;> walk_at "wd") | (refine Wd.t3 (k := 0) (a := 55) (b := 55) (c := 55) ?_ ?_ ?_ (by decide) <;> walk_at "wd") | (refine Wd.t4 (k := 0) (a := 55) (b := 55) (c := 55) (e := 55) ?_ ?_ ?_ ?_ (by decide) <;> walk_at "wd"))
end Wk
namespace Wk
open PySem PySem.Spec PyProof.Rows L2 PD
def m__law_signs_1 : SM := sAsg (gSet 2) (fE (eC (.str "abcdefghijklmnopqrstuvwxyz")))
def m__law_signs_2 : SM := sAsg (gSet 3) (fE (eM1 joinV (eC (.str "")) (eLc (iA rng1V (aC (eCall 2 F__law_draw (aC (eV 0) (aC (eC (.int 4)) (aN)))) (aN))) (gSet 5) (bYes) (eCall 2 F__law_one (aC (eV 0) (aC (eV 2) (aN)))) [5])))
def m__law_signs_3 : SM := sAsg (gSet 4) (fE (eM1 joinV (eC (.str "")) (eLc (iA rng1V (aC (eCall 2 F__law_draw (aC (eV 0) (aC (eC (.int 5)) (aN)))) (aN))) (gSet 5) (bYes) (eCall 2 F__law_one (aC (eV 0) (aC (eV 2) (aN)))) [5])))
def m__law_signs_4 : SM := sRet (eLc (iA rng1V (aC (eV 1) (aN))) (gSet 5) (bYes) (e2 addV (e2 addV (eV 3) (e2 ixV (eC (.str "bdgkpx")) (eV 5))) (eV 4)) [5])
def m__law_signs : SM := sSeq m__law_signs_1 (sSeq m__law_signs_2 (sSeq m__law_signs_3 m__law_signs_4))
theorem m__law_signs_1_E {fr : Fr} {S : Store} : m__law_signs_1 fr S = (sAsg (gSet 2) (fE (eC (.str "abcdefghijklmnopqrstuvwxyz")))) fr S := rfl
theorem m__law_signs_2_E {fr : Fr} {S : Store} : m__law_signs_2 fr S = (sAsg (gSet 3) (fE (eM1 joinV (eC (.str "")) (eLc (iA rng1V (aC (eCall 2 F__law_draw (aC (eV 0) (aC (eC (.int 4)) (aN)))) (aN))) (gSet 5) (bYes) (eCall 2 F__law_one (aC (eV 0) (aC (eV 2) (aN)))) [5])))) fr S := rfl
theorem m__law_signs_3_E {fr : Fr} {S : Store} : m__law_signs_3 fr S = (sAsg (gSet 4) (fE (eM1 joinV (eC (.str "")) (eLc (iA rng1V (aC (eCall 2 F__law_draw (aC (eV 0) (aC (eC (.int 5)) (aN)))) (aN))) (gSet 5) (bYes) (eCall 2 F__law_one (aC (eV 0) (aC (eV 2) (aN)))) [5])))) fr S := rfl
theorem m__law_signs_4_E {fr : Fr} {S : Store} : m__law_signs_4 fr S = (sRet (eLc (iA rng1V (aC (eV 1) (aN))) (gSet 5) (bYes) (e2 addV (e2 addV (eV 3) (e2 ixV (eC (.str "bdgkpx")) (eV 5))) (eV 4)) [5])) fr S := rfl
theorem m__law_signs_E {fr : Fr} {S : Store} : m__law_signs fr S = (sSeq m__law_signs_1 (sSeq m__law_signs_2 (sSeq m__law_signs_3 m__law_signs_4))) fr S := rfl
def F__law_signs : FN := bodyF 6 m__law_signs
local macro_rules
  | `(tactic| walk_at "go") => `(tactic| simp only [sSeq, ssat_next, ssat_toS, ssat_nx, ssat_rt, ssat_bk, ssat_ct, ssat_bad, ssat_ite, if_false_right, sat_ok, sat_bad, sat_exc, sat_bind, sat_ite, sPutO, sPutI, sPutD, eD, ownD, sAsg, fE, sIf, sNx, sRet, sDrop, sOwn, sApp, sExt, sPar, sFor, e1, e2, eV, eC, eA, eA1, aC, aN, eSl, oN, oS, eP, eM1, eIf, eCall, eChain, eJ, jC, jN, bB, bTr, bAnd, bOr, bNot, eAnd, eOr, eNot, bYes, iSeq, iA, ofG, ofO, fmtV, strV, tupleV, listV, iaddV, PD.eq_int, PD.eq_str, eq_self, gSet, ggNil, ggCons, ggTup, mkTup, mkLst, mkObj, asDs, asD, ownL,
      List.map_cons, List.map_nil, List.cons_append, List.nil_append, List.length_cons, List.length_nil, List.length_set, List.replicate, List.getElem?_cons_succ, List.getElem?_cons_zero, List.getElem?_nil, List.set_cons_succ, List.set_cons_zero, List.all_cons, List.all_nil, setAll, Option.map_some, Option.map_none, Option.bind_some, Option.bind_none,
      ixV, addV, subV, mulV, modV, divV, powV, negV, lenV, intV, absI, enumV, iterV, PD.slV, boolV, truthV, ltD, revA, ltV, gtV, leV, geV, isV, isNone, L2.atI, ixN, Bool.false_xor, Bool.true_xor, Bool.not_true, Bool.not_false, Bool.and_true, Bool.true_and, Bool.and_false, Bool.false_and, decide_true, decide_false, decide_eq_true_eq, Bool.and_eq_true, if_true, if_false, reduceIte, Bool.false_eq_true, Str.empty_append, List.length_append, ite_true, ite_false, true_and, and_true, Int.cast_ofNat_Int, Nat.reduceAdd, Nat.reduceSub, Nat.reduceLT, Int.reduceLT, Int.reduceLE, Int.reduceToNat, Nat.lt_add_one])
local macro_rules
  | `(tactic| walk_at "g0") => `(tactic| simp only [sSeq, ssat_next, ssat_toS, ssat_nx, ssat_rt, ssat_bk, ssat_ct, ssat_bad, ssat_ite, if_false_right, sat_ok, sat_bad, sat_exc, sat_bind, sat_ite, sPutO, sPutI, sPutD, eD, ownD, sAsg, fE, sIf, sNx, sRet, sDrop, sOwn, sApp, sExt, sPar, sFor, e1, e2, eV, eC, eA, eA1, aC, aN, eSl, oN, oS, eP, eM1, eIf, eCall, eChain, eJ, jC, jN, bB, bTr, bAnd, bOr, bNot, eAnd, eOr, eNot, bYes, iSeq, iA, ofG, ofO, fmtV, strV, tupleV, listV, iaddV, PD.eq_int, PD.eq_str, eq_self, gSet, ggNil, ggCons, ggTup, mkTup, mkLst, mkObj, asDs, asD, ownL,
      List.map_cons, List.map_nil, List.cons_append, List.nil_append, List.length_cons, List.length_nil, List.length_set, List.replicate, List.getElem?_cons_succ, List.getElem?_cons_zero, List.getElem?_nil, List.set_cons_succ, List.set_cons_zero, List.all_cons, List.all_nil, setAll, ixT0, ixT1, ixT2, ixL0, ixL1, ixL2, Option.map_some, Option.map_none, Option.bind_some, Option.bind_none,
      addV, subV, mulV, modV, divV, powV, negV, lenV, intV, absI, enumV, iterV, PD.slV, boolV, truthV, ltD, revA, ltV, gtV, leV, geV, isV, isNone, Bool.false_xor, Bool.true_xor, Bool.not_true, Bool.not_false, Bool.and_true, Bool.true_and, Bool.and_false, Bool.false_and, decide_true, decide_false, decide_eq_true_eq, Bool.and_eq_true, if_true, if_false, reduceIte, Bool.false_eq_true, Str.empty_append, List.length_append, ite_true, ite_false, true_and, and_true, Int.cast_ofNat_Int, Nat.reduceAdd, Nat.reduceSub, Nat.reduceLT, Int.reduceLT, Int.reduceLE, Int.reduceToNat, Nat.lt_add_one])
local macro_rules
  | `(tactic| walk_at "g1") => `(tactic| simp only [sSeq, ssat_next, ssat_toS, ssat_nx, ssat_rt, ssat_bk, ssat_ct, ssat_bad, ssat_ite, if_false_right, sat_ok, sat_bad, sat_exc, sat_bind, sat_ite, sPutO, sPutI, sPutD, eD, ownD, sAsg, fE, sIf, sNx, sRet, sDrop, sOwn, sApp, sExt, sPar, sFor, e1, e2, eV, eC, eA, eA1, aC, aN, eSl, oN, oS, eP, eM1, eIf, eCall, eChain, eJ, jC, jN, bB, bTr, bAnd, bOr, bNot, eAnd, eOr, eNot, bYes, iSeq, iA, ofG, ofO, fmtV, strV, tupleV, listV, iaddV, PD.eq_int, PD.eq_str, eq_self, gSet, ggNil, ggCons, ggTup, mkTup, mkLst, mkObj, asDs, asD, ownL,
      List.map_cons, List.map_nil, List.cons_append, List.nil_append, List.length_cons, List.length_nil, List.length_set, List.replicate, List.getElem?_cons_succ, List.getElem?_cons_zero, List.getElem?_nil, List.set_cons_succ, List.set_cons_zero, List.all_cons, List.all_nil, setAll, ixT0, ixT1, ixT2, ixL0, ixL1, ixL2, Option.map_some, Option.map_none, Option.bind_some, Option.bind_none,
      addV, subV, mulV, modV, divV, powV, negV, lenV, intV, absI, enumV, iterV, PD.slV, boolV, truthV, ltD, revA, ltV, gtV, leV, geV, isV, isNone, Bool.false_xor, Bool.true_xor, Bool.not_true, Bool.not_false, Bool.and_true, Bool.true_and, Bool.and_false, Bool.false_and, decide_true, decide_false, decide_eq_true_eq, Bool.and_eq_true, if_true, if_false, reduceIte, Bool.false_eq_true, Str.empty_append, List.length_append, ite_true, ite_false, true_and, and_true, Int.cast_ofNat_Int, Nat.reduceAdd, Nat.reduceSub, Nat.reduceLT, Int.reduceLT, Int.reduceSub, Int.reduceAdd, Int.reduceNeg, Int.reduceLE, Int.reduceToNat, Nat.lt_add_one])
local macro_rules
  | `(tactic| walk_at "g") => `(tactic| simp only [sSeq, ssat_next, ssat_toS, ssat_nx, ssat_rt, ssat_bk, ssat_ct, ssat_bad, ssat_ite, if_false_right, sat_ok, sat_bad, sat_exc, sat_bind, sat_ite, sPutO, sPutI, sPutD, eD, ownD, sAsg, fE, sIf, sNx, sRet, sDrop, sOwn, sApp, sExt, sPar, sFor, e1, e2, eV, eC, eA, eA1, aC, aN, eSl, oN, oS, eP, eM1, eIf, eCall, eChain, eJ, jC, jN, bB, bTr, bAnd, bOr, bNot, eAnd, eOr, eNot, bYes, iSeq, iA, ofG, ofO, fmtV, strV, tupleV, listV, iaddV, PD.eq_int, PD.eq_str, eq_self, gSet, ggNil, ggCons, ggTup, mkTup, mkLst, mkObj, asDs, asD, ownL,
      List.map_cons, List.map_nil, List.cons_append, List.nil_append, List.length_cons, List.length_nil, List.length_set, List.replicate, List.getElem?_cons_succ, List.getElem?_cons_zero, List.getElem?_nil, List.set_cons_succ, List.set_cons_zero, List.all_cons, List.all_nil, setAll, ixT0, ixT1, ixT2, ixL0, ixL1, ixL2, Option.map_some, Option.map_none, Option.bind_some, Option.bind_none,
      addV, subV, mulV, modV, divV, powV, negV, lenV, intV, absI, enumV, iterV, PD.slV, boolV, truthV, ltD, revA, ltV, gtV, leV, geV, isV, isNone, Bool.false_xor, Bool.true_xor, Bool.not_true, Bool.not_false, Bool.and_true, Bool.true_and, Bool.and_false, Bool.false_and, decide_true, decide_false, decide_eq_true_eq, Bool.and_eq_true, if_true, if_false, reduceIte, Bool.false_eq_true, Str.empty_append, List.length_append, ite_true, ite_false, true_and, and_true, Int.cast_ofNat_Int, Nat.reduceAdd, Nat.reduceSub, Nat.reduceLT, Int.reduceLT, Int.reduceSub, Int.reduceAdd, Int.reduceNeg, Int.reduceLE, Int.reduceToNat, Nat.lt_add_one, beq_iff_eq, sizeLine_eq, Nat.reduceLeDiff, inV_tup, inV_lst, eqv_str, eqv_int, eqV_nilT, cutD_tail, false_and, and_false, or_true, true_or, or_false, false_or, ixT3, Bool.true_eq_false, Bool.or_eq_false_iff, decide_eq_false_iff_not, Int.not_le, Int.not_lt, beq_self_eq_true, Int.reduceBEq, Bool.not_eq_eq_eq_not, beq_eq_false_iff_ne, ne_eq, not_true_eq_false, not_false_eq_true, List.isEmpty_cons, List.isEmpty_nil, List.any_cons, List.any_nil, Bool.or_false, Bool.or_eq_true, isaV, PyData.isInt, PyData.isStr, PyData.isBool, PyData.isTuple, PyData.isList, PyData.isDict, m__law_signs_1_E, m__law_signs_2_E, m__law_signs_3_E, m__law_signs_4_E, m__law_signs_E])
local macro_rules
  | `(tactic| walk_at "gt") => `(tactic| try walk_at "go")
local macro_rules
  | `(tactic| walk_at "gq") => `(tactic| try walk_at "g0")
local macro_rules
  | `(tactic| walk_at "len") => `(tactic| (simp only [Str.length_append, PySem.ofString_length, len_nil, sizeLine_eq] at *; omega))
local macro_rules
  | `(tactic| walk_at "fin") => `(tactic| ((repeat' apply And.intro) <;> first | assumption | exact True.intro | walk_at "len" | rfl))
local macro_rules
  | `(tactic| walk_at "start") => `(tactic| (rw [sat_body]; simp only [List.map_cons, List.map_nil, List.cons_append, List.nil_append, List.length_cons, List.length_nil, Nat.reduceAdd, Nat.reduceSub, List.replicate]))
local macro_rules
  | `(tactic| walk_at "wd") => `(tactic| first | assumption | exact Wd.none | exact Wd.bool | exact Wd.small (by decide) (by decide) | exact Wd.lit (by decide) | exact Wd.dict0 | exact Wd.tup Wds.nil | exact Wd.lst Wds.nil | (refine Wd.t1 (k := 2) (a := 990) ?_ (by decide) <;> walk_at "wd") | (refine Wd.t2 (k := 2) (a := 990) (b := 990) ?_ ?_ (by decide) <;> walk_at "wd") | (refine Wd.t3 (k := 2) (a := 990) (b := 990) (c := 990) ?_ ?_ ?_ (by decide) <;> walk_at "wd") | (refine Wd.t4 (k := 2) (a := 990) (b := 990) (c := 990) (e := 990) ?_ ?_ ?_ ?_ (by decide) <;> walk_at "wd") | (refine Wd.t1 (k := 1) (a := 240) ?_ (by decide) <;> walk_at "wd") | (refine Wd.t2 (k := 1) (a := 240) (b := 240) ?_ ?_ (by decide) <;> walk_at "wd") | (refine Wd.t3 (k := 1) (a := 240) (b := 240) (c := 240) ?_ ?_ ?_ (by decide) <;> walk_at "wd") | (refine Wd.t4 (k := 1) (a := 240) (b := 240) (c := 240) (e := 240) ?_ ?_ ?_ ?_ (by decide) <;> walk_at "wd") | (refine Wd.t1 (k := 0) (a := 55) ?_ (by decide) <;> walk_at "wd") | (refine Wd.t2 (k := 0) (a := 55) (b := 55) ?_ ?_ (by decide) <;> walk_at "wd") | (refine Wd.t3 (k := 0) (a := 55) (b := 55) (c := 55) ?_ ?_ ?_ (by decide) <;> walk_at "wd") | (refine Wd.t4 (k := 0) (a := 55) (b := 55) (c := 55) (e := 55) ?_ ?_ ?_ ?_ (by decide) <;> walk_at "wd"))
theorem bdg_lw : ∀ c ∈ (Str.ofString "bdgkpx").cps.toList, 97 ≤ c ∧ c ≤ 122 := by decide +kernel
theorem bdg_len : (Str.ofString "bdgkpx").cps.toList.length = 6 := by decide +kernel
def signAt (l r : Str) (k : Nat) : Str := l ++ ⟨#[(Str.ofString "bdgkpx").cps.toList.getD k 0]⟩ ++ r
def signsOf (l r : Str) (n : Nat) : List PyData := (List.range n).map fun k => .str (signAt l r k)
theorem sign_lw {l r : Str} {k : Nat} (hl : Lw 3 l) (hr : Lw 4 r) (hk : k < 6) : Lw 8 (signAt l r k) := by
  have e : (Str.ofString "bdgkpx").cps.toList.getD k 0 ∈ (Str.ofString "bdgkpx").cps.toList := by
    rw [List.getD_eq_getElem?_getD, List.getElem?_eq_getElem (by rw [bdg_len]; exact hk)]
    exact List.getElem_mem _
  exact ((hl.app (Lw.one (bdg_lw _ e))).app hr).mono (by decide)
theorem letters_ok {rest : Store} {n k : Int} {S : Store} {fr : Fr} {b : Nat} (D : Deck rest n S) (hn : n ≤ 1000000000) (k0 : 0 ≤ k) (k1 : k ≤ b) (hb : b ≤ 100) (hf : ∃ x2 x3 x4 x1 x5, fr = [some (.obj 1), x1, some (.d (.str "abcdefghijklmnopqrstuvwxyz")), x3, x4, x5] ∧ x2 = x3) {Q : List PyData → Store → Prop} {X : Exc → Store → Prop}
    (h : ∀ (ts : List Str) S, (∀ t ∈ ts, Lw 1 t) → ts.length ≤ b → Deck rest (n + b) S → Q (ts.map .str) S) : (compF (gSet 5) bYes (eCall 2 F__law_one (aC (eV 0) (aC (eV 2) (aN)))) [5] fr (rngL 0 k) S []).sat Q X := by
  obtain ⟨_, x3, x4, x1, x5, rfl, _⟩ := hf
  refine sat_crng (fun j S acc => Deck rest (n + j) S ∧ ∀ d ∈ acc, ∃ s, d = .str s ∧ Lw 1 s) ⟨by simpa using D, by simp⟩ (fun j S acc hj ha h => ?_) (by omega) fun S acc ha h2 => ?_
  · refine ⟨_, rfl, ?_⟩
    simp only [wipeF]
    walk_at "go"
    refine (one_str h.1 (by omega) (by decide) (by decide)).on fun v S ⟨c, hc, e, D⟩ => ?_
    refine ⟨_, e, D.mono (by omega), fun d hd => ?_⟩
    rcases List.mem_append.mp hd with q | q
    · exact h.2 d q
    · rw [List.mem_singleton.mp q]
      exact ⟨_, rfl, Lw.one (abc_lw c hc)⟩
  · obtain ⟨ts, rfl, ht⟩ := strs_of_all h2.2
    rw [List.length_map] at ha
    exact h ts S ht (by omega) (h2.1.mono (by omega))
theorem signs_ok {rest : Store} {n many : Int} {S : Store} (D : Deck rest n S) (hn : n ≤ 900000000) (h0 : 0 ≤ many) (h1 : many ≤ 6) :
    (F__law_signs [.obj 1, .d (.int many)] S).sat (fun v S' => ∃ l r, Lw 3 l ∧ Lw 4 r ∧ v = .d (.list (signsOf l r many.toNat)) ∧ Deck rest (n + 9) S') NoX := by
  have sz : sizeLine = 16777216 := sizeLine_eq
  unfold F__law_signs
  walk_at "start"
  unfold m__law_signs
  refine seq_sat (fun fr S => fr = [some (.obj 1), some (.d (.int many)), some (.d (.str "abcdefghijklmnopqrstuvwxyz")), none, none, none] ∧ Deck rest n S) ?_ ?_
  · simp only [m__law_signs_1]
    walk_at "go"
    exact D
  rintro _ S ⟨rfl, D⟩
  refine seq_sat (fun fr S => ∃ l, Lw 3 l ∧ fr = [some (.obj 1), some (.d (.int many)), some (.d (.str "abcdefghijklmnopqrstuvwxyz")), some (.d (.str l)), none, none] ∧ Deck rest (n + 4) S) ?_ ?_
  · simp only [m__law_signs_2]
    walk_at "go"
    simp only [eLc]
    walk_at "go"
    refine (draw_ok D (by omega) (by decide) (by decide)).on fun v S ⟨q, e, q0, q1, D⟩ => ?_
    subst e
    rw [rng1_ok (by omega) (by omega)]
    walk_at "go"
    refine letters_ok (b := 3) D (by omega) q0 (by omega) (by decide) ⟨_, _, _, _, _, rfl, rfl⟩ fun ts S ht hl D => ?_
    rw [join_ok (n := 1) (m := 0) Tx.lit (fun t h => (ht t h).tx) (by omega)]
    walk_at "go"
    exact ⟨_, Lw.join0 ht hl, rfl, D.mono (by omega)⟩
  rintro _ S ⟨l, hl, rfl, D⟩
  refine seq_sat (fun fr S => ∃ r, Lw 4 r ∧ fr = [some (.obj 1), some (.d (.int many)), some (.d (.str "abcdefghijklmnopqrstuvwxyz")), some (.d (.str l)), some (.d (.str r)), none] ∧ Deck rest (n + 9) S) ?_ ?_
  · simp only [m__law_signs_3]
    walk_at "go"
    simp only [eLc]
    walk_at "go"
    refine (draw_ok D (by omega) (by decide) (by decide)).on fun v S ⟨q, e, q0, q1, D⟩ => ?_
    subst e
    rw [rng1_ok (by omega) (by omega)]
    walk_at "go"
    refine letters_ok (b := 4) D (by omega) q0 (by omega) (by decide) ⟨_, _, _, _, _, rfl, rfl⟩ fun ts S ht hl D => ?_
    rw [join_ok (n := 1) (m := 0) Tx.lit (fun t h => (ht t h).tx) (by omega)]
    walk_at "go"
    exact ⟨_, Lw.join0 ht hl, rfl, D.mono (by omega)⟩
  rintro _ S ⟨r, hr, rfl, D⟩
  simp only [m__law_signs_4]
  walk_at "go"
  simp only [eLc]
  walk_at "go"
  rw [rng1_ok (by omega) (by omega)]
  walk_at "go"
  refine sat_crng (fun j S acc => Deck rest (n + 9) S ∧ acc = signsOf l r j) ⟨D, rfl⟩ (fun j S acc hj ha h => ?_) (by omega) fun S acc ha h => ?_
  · obtain ⟨D, rfl⟩ := h
    refine ⟨_, rfl, ?_⟩
    simp only [wipeF]
    walk_at "go"
    have hb := bdg_len
    rw [if_pos (show (0 : Int) ≤ (j : Nat) by omega), if_pos (show ((j : Nat) : Int) < (Str.ofString "bdgkpx").cps.toList.length by omega), Option.bind_some, show ((j : Nat) : Int).toNat = j from rfl, List.getElem?_eq_getElem (by omega)]
    walk_at "go"
    have l1 := hl.1
    have r1 := hr.1
    refine ⟨by decide, by rw [Str1.len]; omega, by rw [Str.length_append, Str1.len]; omega, _, rfl, D, ?_⟩
    unfold signsOf
    rw [List.range_succ, List.map_append]
    unfold signAt
    rw [List.map_cons, List.map_nil, List.getD_eq_getElem?_getD, List.getElem?_eq_getElem (by omega)]
    rfl
  · obtain ⟨D, rfl⟩ := h
    exact ⟨l, r, hl, hr, rfl, D⟩
theorem sign_sn {l r : Str} {k : Nat} (hl : Lw 3 l) (hr : Lw 4 r) (hk : k < 6) : Sn (signAt l r k) := by
  refine ⟨sign_lw hl hr hk, ?_⟩
  unfold signAt
  rw [Str.length_append, Str.length_append, Str1.len]
  omega
theorem signs_ok2 {rest : Store} {n many : Int} {S : Store} (D : Deck rest n S) (hn : n ≤ 900000000) (h0 : 0 ≤ many) (h1 : many ≤ 6) :
    (F__law_signs [.obj 1, .d (.int many)] S).sat (fun v S' => ∃ ts : List Str, v = .d (.list (ts.map .str)) ∧ ts.length = many.toNat ∧ (∀ t ∈ ts, Sn t) ∧ Deck rest (n + 9) S') NoX :=
  (signs_ok D hn h0 h1).on fun v S' ⟨l, r, hl, hr, e, D⟩ => ⟨(List.range many.toNat).map (signAt l r), by rw [e, signsOf, List.map_map]; rfl, by simp, fun t ht => by
    obtain ⟨k, hk, rfl⟩ := List.mem_map.mp ht
    rw [List.mem_range] at hk
    exact sign_sn hl hr (by omega), D⟩
end Wk
namespace Wk
open PySem PySem.Spec PyProof.Rows L2 PD
def m__law_kind_1 : SM := sOwn 3 5 (eA mkLst (aC (eA mkTup (aC (eCall 2 F__law_one (aC (eV 0) (aC (eV 1) (aN)))) (aC (eC (.int 0)) (aN)))) (aN)))
def m__law_kind_3 : SM := sApp 3 (eA mkTup (aC (eCall 2 F__law_one (aC (eV 0) (aC (eV 1) (aN)))) (aC (eCall 2 F__law_draw (aC (eV 0) (aC (eC (.int 3)) (aN)))) (aN))))
def m__law_kind_2 : SM := sFor (gSet 4) (iA rng1V (aC (e2 addV (eC (.int 1)) (eCall 2 F__law_draw (aC (eV 0) (aC (eV 2) (aN))))) (aN)))
    (m__law_kind_3)
def m__law_kind_4 : SM := sRet (eA1 tupleV (e1 sortSetV (eP 3)))
def m__law_kind : SM := sSeq m__law_kind_1 (sSeq m__law_kind_2 m__law_kind_4)
theorem m__law_kind_1_E {fr : Fr} {S : Store} : m__law_kind_1 fr S = (sOwn 3 5 (eA mkLst (aC (eA mkTup (aC (eCall 2 F__law_one (aC (eV 0) (aC (eV 1) (aN)))) (aC (eC (.int 0)) (aN)))) (aN)))) fr S := rfl
theorem m__law_kind_3_E {fr : Fr} {S : Store} : m__law_kind_3 fr S = (sApp 3 (eA mkTup (aC (eCall 2 F__law_one (aC (eV 0) (aC (eV 1) (aN)))) (aC (eCall 2 F__law_draw (aC (eV 0) (aC (eC (.int 3)) (aN)))) (aN))))) fr S := rfl
theorem m__law_kind_2_E {fr : Fr} {S : Store} : m__law_kind_2 fr S = (sFor (gSet 4) (iA rng1V (aC (e2 addV (eC (.int 1)) (eCall 2 F__law_draw (aC (eV 0) (aC (eV 2) (aN))))) (aN)))
    (m__law_kind_3)) fr S := rfl
theorem m__law_kind_4_E {fr : Fr} {S : Store} : m__law_kind_4 fr S = (sRet (eA1 tupleV (e1 sortSetV (eP 3)))) fr S := rfl
theorem m__law_kind_E {fr : Fr} {S : Store} : m__law_kind fr S = (sSeq m__law_kind_1 (sSeq m__law_kind_2 m__law_kind_4)) fr S := rfl
def F__law_kind : FN := bodyF 5 m__law_kind
local macro_rules
  | `(tactic| walk_at "go") => `(tactic| simp only [sSeq, ssat_next, ssat_toS, ssat_nx, ssat_rt, ssat_bk, ssat_ct, ssat_bad, ssat_ite, if_false_right, sat_ok, sat_bad, sat_exc, sat_bind, sat_ite, sPutO, sPutI, sPutD, eD, ownD, sAsg, fE, sIf, sNx, sRet, sDrop, sOwn, sApp, sExt, sPar, sFor, e1, e2, eV, eC, eA, eA1, aC, aN, eSl, oN, oS, eP, eM1, eIf, eCall, eChain, eJ, jC, jN, bB, bTr, bAnd, bOr, bNot, eAnd, eOr, eNot, bYes, iSeq, iA, ofG, ofO, fmtV, strV, tupleV, listV, iaddV, PD.eq_int, PD.eq_str, eq_self, gSet, ggNil, ggCons, ggTup, mkTup, mkLst, mkObj, asDs, asD, ownL,
      List.map_cons, List.map_nil, List.cons_append, List.nil_append, List.length_cons, List.length_nil, List.length_set, List.replicate, List.getElem?_cons_succ, List.getElem?_cons_zero, List.getElem?_nil, List.set_cons_succ, List.set_cons_zero, List.all_cons, List.all_nil, setAll, Option.map_some, Option.map_none, Option.bind_some, Option.bind_none,
      ixV, addV, subV, mulV, modV, divV, powV, negV, lenV, intV, absI, enumV, iterV, PD.slV, boolV, truthV, ltD, revA, ltV, gtV, leV, geV, isV, isNone, L2.atI, ixN, Bool.false_xor, Bool.true_xor, Bool.not_true, Bool.not_false, Bool.and_true, Bool.true_and, Bool.and_false, Bool.false_and, decide_true, decide_false, decide_eq_true_eq, Bool.and_eq_true, if_true, if_false, reduceIte, Bool.false_eq_true, Str.empty_append, List.length_append, ite_true, ite_false, true_and, and_true, Int.cast_ofNat_Int, Nat.reduceAdd, Nat.reduceSub, Nat.reduceLT, Int.reduceLT, Int.reduceLE, Int.reduceToNat, Nat.lt_add_one])
local macro_rules
  | `(tactic| walk_at "g0") => `(tactic| simp only [sSeq, ssat_next, ssat_toS, ssat_nx, ssat_rt, ssat_bk, ssat_ct, ssat_bad, ssat_ite, if_false_right, sat_ok, sat_bad, sat_exc, sat_bind, sat_ite, sPutO, sPutI, sPutD, eD, ownD, sAsg, fE, sIf, sNx, sRet, sDrop, sOwn, sApp, sExt, sPar, sFor, e1, e2, eV, eC, eA, eA1, aC, aN, eSl, oN, oS, eP, eM1, eIf, eCall, eChain, eJ, jC, jN, bB, bTr, bAnd, bOr, bNot, eAnd, eOr, eNot, bYes, iSeq, iA, ofG, ofO, fmtV, strV, tupleV, listV, iaddV, PD.eq_int, PD.eq_str, eq_self, gSet, ggNil, ggCons, ggTup, mkTup, mkLst, mkObj, asDs, asD, ownL,
      List.map_cons, List.map_nil, List.cons_append, List.nil_append, List.length_cons, List.length_nil, List.length_set, List.replicate, List.getElem?_cons_succ, List.getElem?_cons_zero, List.getElem?_nil, List.set_cons_succ, List.set_cons_zero, List.all_cons, List.all_nil, setAll, ixT0, ixT1, ixT2, ixL0, ixL1, ixL2, Option.map_some, Option.map_none, Option.bind_some, Option.bind_none,
      addV, subV, mulV, modV, divV, powV, negV, lenV, intV, absI, enumV, iterV, PD.slV, boolV, truthV, ltD, revA, ltV, gtV, leV, geV, isV, isNone, Bool.false_xor, Bool.true_xor, Bool.not_true, Bool.not_false, Bool.and_true, Bool.true_and, Bool.and_false, Bool.false_and, decide_true, decide_false, decide_eq_true_eq, Bool.and_eq_true, if_true, if_false, reduceIte, Bool.false_eq_true, Str.empty_append, List.length_append, ite_true, ite_false, true_and, and_true, Int.cast_ofNat_Int, Nat.reduceAdd, Nat.reduceSub, Nat.reduceLT, Int.reduceLT, Int.reduceLE, Int.reduceToNat, Nat.lt_add_one])
local macro_rules
  | `(tactic| walk_at "g1") => `(tactic| simp only [sSeq, ssat_next, ssat_toS, ssat_nx, ssat_rt, ssat_bk, ssat_ct, ssat_bad, ssat_ite, if_false_right, sat_ok, sat_bad, sat_exc, sat_bind, sat_ite, sPutO, sPutI, sPutD, eD, ownD, sAsg, fE, sIf, sNx, sRet, sDrop, sOwn, sApp, sExt, sPar, sFor, e1, e2, eV, eC, eA, eA1, aC, aN, eSl, oN, oS, eP, eM1, eIf, eCall, eChain, eJ, jC, jN, bB, bTr, bAnd, bOr, bNot, eAnd, eOr, eNot, bYes, iSeq, iA, ofG, ofO, fmtV, strV, tupleV, listV, iaddV, PD.eq_int, PD.eq_str, eq_self, gSet, ggNil, ggCons, ggTup, mkTup, mkLst, mkObj, asDs, asD, ownL,
      List.map_cons, List.map_nil, List.cons_append, List.nil_append, List.length_cons, List.length_nil, List.length_set, List.replicate, List.getElem?_cons_succ, List.getElem?_cons_zero, List.getElem?_nil, List.set_cons_succ, List.set_cons_zero, List.all_cons, List.all_nil, setAll, ixT0, ixT1, ixT2, ixL0, ixL1, ixL2, Option.map_some, Option.map_none, Option.bind_some, Option.bind_none,
      addV, subV, mulV, modV, divV, powV, negV, lenV, intV, absI, enumV, iterV, PD.slV, boolV, truthV, ltD, revA, ltV, gtV, leV, geV, isV, isNone, Bool.false_xor, Bool.true_xor, Bool.not_true, Bool.not_false, Bool.and_true, Bool.true_and, Bool.and_false, Bool.false_and, decide_true, decide_false, decide_eq_true_eq, Bool.and_eq_true, if_true, if_false, reduceIte, Bool.false_eq_true, Str.empty_append, List.length_append, ite_true, ite_false, true_and, and_true, Int.cast_ofNat_Int, Nat.reduceAdd, Nat.reduceSub, Nat.reduceLT, Int.reduceLT, Int.reduceSub, Int.reduceAdd, Int.reduceNeg, Int.reduceLE, Int.reduceToNat, Nat.lt_add_one])
local macro_rules
  | `(tactic| walk_at "g") => `(tactic| simp only [sSeq, ssat_next, ssat_toS, ssat_nx, ssat_rt, ssat_bk, ssat_ct, ssat_bad, ssat_ite, if_false_right, sat_ok, sat_bad, sat_exc, sat_bind, sat_ite, sPutO, sPutI, sPutD, eD, ownD, sAsg, fE, sIf, sNx, sRet, sDrop, sOwn, sApp, sExt, sPar, sFor, e1, e2, eV, eC, eA, eA1, aC, aN, eSl, oN, oS, eP, eM1, eIf, eCall, eChain, eJ, jC, jN, bB, bTr, bAnd, bOr, bNot, eAnd, eOr, eNot, bYes, iSeq, iA, ofG, ofO, fmtV, strV, tupleV, listV, iaddV, PD.eq_int, PD.eq_str, eq_self, gSet, ggNil, ggCons, ggTup, mkTup, mkLst, mkObj, asDs, asD, ownL,
      List.map_cons, List.map_nil, List.cons_append, List.nil_append, List.length_cons, List.length_nil, List.length_set, List.replicate, List.getElem?_cons_succ, List.getElem?_cons_zero, List.getElem?_nil, List.set_cons_succ, List.set_cons_zero, List.all_cons, List.all_nil, setAll, ixT0, ixT1, ixT2, ixL0, ixL1, ixL2, Option.map_some, Option.map_none, Option.bind_some, Option.bind_none,
      addV, subV, mulV, modV, divV, powV, negV, lenV, intV, absI, enumV, iterV, PD.slV, boolV, truthV, ltD, revA, ltV, gtV, leV, geV, isV, isNone, Bool.false_xor, Bool.true_xor, Bool.not_true, Bool.not_false, Bool.and_true, Bool.true_and, Bool.and_false, Bool.false_and, decide_true, decide_false, decide_eq_true_eq, Bool.and_eq_true, if_true, if_false, reduceIte, Bool.false_eq_true, Str.empty_append, List.length_append, ite_true, ite_false, true_and, and_true, Int.cast_ofNat_Int, Nat.reduceAdd, Nat.reduceSub, Nat.reduceLT, Int.reduceLT, Int.reduceSub, Int.reduceAdd, Int.reduceNeg, Int.reduceLE, Int.reduceToNat, Nat.lt_add_one, beq_iff_eq, sizeLine_eq, Nat.reduceLeDiff, inV_tup, inV_lst, eqv_str, eqv_int, eqV_nilT, cutD_tail, false_and, and_false, or_true, true_or, or_false, false_or, ixT3, Bool.true_eq_false, Bool.or_eq_false_iff, decide_eq_false_iff_not, Int.not_le, Int.not_lt, beq_self_eq_true, Int.reduceBEq, Bool.not_eq_eq_eq_not, beq_eq_false_iff_ne, ne_eq, not_true_eq_false, not_false_eq_true, List.isEmpty_cons, List.isEmpty_nil, List.any_cons, List.any_nil, Bool.or_false, Bool.or_eq_true, isaV, PyData.isInt, PyData.isStr, PyData.isBool, PyData.isTuple, PyData.isList, PyData.isDict, m__law_kind_1_E, m__law_kind_3_E, m__law_kind_2_E, m__law_kind_4_E, m__law_kind_E])
local macro_rules
  | `(tactic| walk_at "gt") => `(tactic| try walk_at "go")
local macro_rules
  | `(tactic| walk_at "gq") => `(tactic| try walk_at "g0")
local macro_rules
  | `(tactic| walk_at "len") => `(tactic| (simp only [Str.length_append, PySem.ofString_length, len_nil, sizeLine_eq] at *; omega))
local macro_rules
  | `(tactic| walk_at "fin") => `(tactic| ((repeat' apply And.intro) <;> first | assumption | exact True.intro | walk_at "len" | rfl))
local macro_rules
  | `(tactic| walk_at "start") => `(tactic| (rw [sat_body]; simp only [List.map_cons, List.map_nil, List.cons_append, List.nil_append, List.length_cons, List.length_nil, Nat.reduceAdd, Nat.reduceSub, List.replicate]))
local macro_rules
  | `(tactic| walk_at "wd") => `(tactic| first | assumption | exact Wd.none | exact Wd.bool | exact Wd.small (by decide) (by decide) | exact Wd.lit (by decide) | exact Wd.dict0 | exact Wd.tup Wds.nil | exact Wd.lst Wds.nil | (refine Wd.t1 (k := 2) (a := 990) ?_ (by decide) <;> walk_at "wd") | (refine Wd.t2 (k := 2) (a := 990) (b := 990) ?_ ?_ (by decide) <;> walk_at "wd") | (refine Wd.t3 (k := 2) (a := 990) (b := 990) (c := 990) ?_ ?_ ?_ (by decide) <;> walk_at "wd") | (refine Wd.t4 (k := 2) (a := 990) (b := 990) (c := 990) (e := 990) ?_ ?_ ?_ ?_ (by decide) <;> walk_at "wd") | (refine Wd.t1 (k := 1) (a := 240) ?_ (by decide) <;> walk_at "wd") | (refine Wd.t2 (k := 1) (a := 240) (b := 240) ?_ ?_ (by decide) <;> walk_at "wd") | (refine Wd.t3 (k := 1) (a := 240) (b := 240) (c := 240) ?_ ?_ ?_ (by decide) <;> walk_at "wd") | (refine Wd.t4 (k := 1) (a := 240) (b := 240) (c := 240) (e := 240) ?_ ?_ ?_ ?_ (by decide) <;> walk_at "wd") | (refine Wd.t1 (k := 0) (a := 55) ?_ (by decide) <;> walk_at "wd") | (refine Wd.t2 (k := 0) (a := 55) (b := 55) ?_ ?_ (by decide) <;> walk_at "wd") | (refine Wd.t3 (k := 0) (a := 55) (b := 55) (c := 55) ?_ ?_ ?_ (by decide) <;> walk_at "wd") | (refine Wd.t4 (k := 0) (a := 55) (b := 55) (c := 55) (e := 55) ?_ ?_ ?_ ?_ (by decide) <;> walk_at "wd"))
structure KindD (signs : List Str) (ps : List (Str × Int)) : Prop where
  mem : ∀ p ∈ ps, p.1 ∈ signs ∧ 0 ≤ p.2 ∧ p.2 ≤ 2
  srt : ps.Pairwise pairLt
  len : ps.length ≤ 22
  end_ : ∃ p ∈ ps, p.2 = 0
theorem kind_ok {rest : Store} {n most : Int} {S : Store} {signs : List Str} (D : Deck rest n S) (hn : n ≤ 900000000) (h0 : signs ≠ []) (h1 : signs.length ≤ 1000) (m0 : 1 ≤ most) (m1 : most ≤ 20) :
    (F__law_kind [.obj 1, .d (.list (signs.map .str)), .d (.int most)] S).sat (fun v S' => ∃ ps, v = .d (.tuple (ps.map pd)) ∧ KindD signs ps ∧ Deck rest (n + 60) S') NoX := by
  have sz : sizeLine = 16777216 := sizeLine_eq
  have ne : signs.map PyData.str ≠ [] := by simpa using h0
  have few : (signs.map PyData.str).length < 1073741824 := by rw [List.length_map]; omega
  unfold F__law_kind
  walk_at "start"
  simp only [m__law_kind, m__law_kind_1]
  walk_at "go"
  refine (one_list D (by omega) ne few).on fun v S ⟨d, hd, e, D⟩ => ?_
  obtain ⟨s0, hs0, rfl⟩ := List.mem_map.mp hd
  subst e
  walk_at "go"
  refine ⟨by omega, by omega, ?_⟩
  simp only [m__law_kind_2]
  walk_at "go"
  refine (draw_ok D (by omega) (by omega) (by omega)).on fun v S ⟨q, e, q0, q1, D⟩ => ?_
  subst e
  walk_at "go"
  rw [rng1_ok (by omega) (by omega)]
  walk_at "go"
  refine ssat_rng (fun j fr S => ∃ (ps : List (Str × Int)) (x : Option SV), ps.length = j ∧ (∀ p ∈ (s0, (0 : Int)) :: ps, p.1 ∈ signs ∧ 0 ≤ p.2 ∧ p.2 ≤ 2) ∧ fr = [some (.obj 1), some (.d (.list (signs.map .str))), some (.d (.int most)), some (.d (.list (((s0, 0) :: ps).map pd))), x] ∧ Deck rest (n + 2 + 2 * j) S)
    ⟨[], none, rfl, by simpa using hs0, rfl, D.mono (by omega)⟩ (fun j fr S hj ⟨ps, x, hl, hp, e, D⟩ => ?_) fun fr S ⟨ps, x, hl, hp, e, D⟩ => ?_
  · subst e
    refine ⟨_, rfl, ?_⟩
    simp only [m__law_kind_3]
    walk_at "go"
    refine (one_list D (by omega) ne few).on fun v S ⟨d, hd, e, D⟩ => ?_
    obtain ⟨s1, hs1, rfl⟩ := List.mem_map.mp hd
    subst e
    walk_at "go"
    refine (draw_ok D (by omega) (by decide) (by decide)).on fun v S ⟨u, e, u0, u1, D⟩ => ?_
    subst e
    walk_at "go"
    refine ⟨by omega, by rw [List.length_map]; omega, ps ++ [(s1, u)], some (.d (.int (j : Nat))), by simp [hl], fun p h => ?_, ?_, D.mono (by omega)⟩
    · rw [← List.cons_append] at h
      rcases List.mem_append.mp h with h | h
      · exact hp p h
      · rw [List.mem_singleton.mp h]
        exact ⟨hs1, u0, by show u ≤ 2; omega⟩
    · rw [List.map_append]
      rfl
  · subst e
    simp only [m__law_kind_4]
    walk_at "go"
    obtain ⟨qs, e, mem, srt, len⟩ := sortset_pairs (S := S) (ps := (s0, 0) :: ps) (by rw [List.length_cons]; omega)
    simp only [List.map_cons] at e
    rw [e]
    walk_at "go"
    rw [List.length_cons] at len
    refine ⟨qs, rfl, ⟨fun p h => hp p ((mem p).mp h), srt, by omega, (s0, 0), (mem _).mpr List.mem_cons_self, rfl⟩, D.mono (by omega)⟩
end Wk
namespace Wk
open PySem PySem.Spec PyProof.Rows L2 PD
def top (i : Nat) : Stmt := PySem.Challenge.pw_anymaze_k70_judges_judged.main.body.getD i (.Pass ⟨0, 0, 0, 0⟩)
abbrev s_is_number : Stmt := top 2
abbrev N_is_number : List Str := ["value", "least", "most"]
abbrev s_tuples_of : Stmt := top 4
abbrev N_tuples_of : List Str := ["many", "count", "rows", "k", "row", "number"]
abbrev s_keys_of : Stmt := top 5
abbrev N_keys_of : List Str := ["kind", "many", "found", "sign", "count", "classes"]
abbrev s_are_truths : Stmt := top 6
abbrev N_are_truths : List Str := ["value", "truth"]
abbrev s_is_row : Stmt := top 7
abbrev N_is_row : List Str := ["row", "key", "many", "number"]
abbrev s_is_judge : Stmt := top 8
abbrev N_is_judge : List Str := ["kind", "value", "many", "sign", "count", "row", "key"]
abbrev s__law_deck : Stmt := top 10
abbrev N__law_deck : List Str := ["_law_script", "_law_cell"]
abbrev s__law_draw : Stmt := top 11
abbrev N__law_draw : List Str := ["_law_deck_here", "_law_many", "_law_cell", "_law_at", "_law_mixed"]
abbrev s__law_one : Stmt := top 12
abbrev N__law_one : List Str := ["_law_deck_here", "_law_items"]
abbrev s__law_signs : Stmt := top 13
abbrev N__law_signs : List Str := ["_law_deck_here", "_law_many", "_law_letters", "_law_left", "_law_right", "_law_k"]
abbrev s__law_kind : Stmt := top 14
abbrev N__law_kind : List Str := ["_law_deck_here", "_law_signs_here", "_law_most", "_law_shapes", "_law_k"]
abbrev s__law_tuples : Stmt := top 15
abbrev N__law_tuples : List Str := ["_law_many", "_law_count", "_law_rows", "_law_k", "_law_longer", "_law_row", "_law_number"]
abbrev s__law_judge : Stmt := top 16
abbrev N__law_judge : List Str := ["_law_deck_here", "_law_kind_here", "_law_many", "_law_rows", "_law_sign", "_law_count", "_law_classes", "_law_k"]
abbrev s__law_whole : Stmt := top 18
abbrev N__law_whole : List Str := ["_law_value", "_law_most"]
abbrev s__law_is_judge : Stmt := top 19
abbrev N__law_is_judge : List Str := ["_law_kind_here", "_law_value", "_law_truths", "_law_rows", "_law_keys", "_law_sign", "_law_count", "_law_row", "_law_truth", "_law_classes", "_law_number"]
abbrev s__law_odd : Stmt := top 20
abbrev N__law_odd : List Str := ["_law_deck_here"]
abbrev s__law_bent : Stmt := top 21
abbrev N__law_bent : List Str := ["_law_deck_here", "_law_value", "_law_depth", "_law_at", "_law_way"]
abbrev s_law : Stmt := top 22
abbrev N_law : List Str := ["_law_script", "_law_deck_here", "_law_signs_here", "_law_turn", "_law_kind_here", "_law_judge_here", "_law_values", "_law_k", "_law_bent_here", "_law_value", "_law_kept"]
def m_tuples_of_1 : SM := sAsg (gSet 2) (fE (eA mkLst (aC (eA mkTup (aN)) (aN))))
def m_tuples_of_3 : SM := sAsg (gSet 2) (fE (eLc2 (iSeq (eV 2)) (gSet 4) (bYes) (iA rng1V (aC (eV 0) (aN))) (gSet 5) (bYes) (e2 addV (eV 4) (eA mkTup (aC (eV 5) (aN)))) [4, 5] [5]))
def m_tuples_of_2 : SM := sFor (gSet 3) (iA rng1V (aC (eV 1) (aN)))
    (m_tuples_of_3)
def m_tuples_of_4 : SM := sRet (eV 2)
def m_tuples_of : SM := sSeq m_tuples_of_1 (sSeq m_tuples_of_2 m_tuples_of_4)
theorem m_tuples_of_1_E {fr : Fr} {S : Store} : m_tuples_of_1 fr S = (sAsg (gSet 2) (fE (eA mkLst (aC (eA mkTup (aN)) (aN))))) fr S := rfl
theorem m_tuples_of_3_E {fr : Fr} {S : Store} : m_tuples_of_3 fr S = (sAsg (gSet 2) (fE (eLc2 (iSeq (eV 2)) (gSet 4) (bYes) (iA rng1V (aC (eV 0) (aN))) (gSet 5) (bYes) (e2 addV (eV 4) (eA mkTup (aC (eV 5) (aN)))) [4, 5] [5]))) fr S := rfl
theorem m_tuples_of_2_E {fr : Fr} {S : Store} : m_tuples_of_2 fr S = (sFor (gSet 3) (iA rng1V (aC (eV 1) (aN)))
    (m_tuples_of_3)) fr S := rfl
theorem m_tuples_of_4_E {fr : Fr} {S : Store} : m_tuples_of_4 fr S = (sRet (eV 2)) fr S := rfl
theorem m_tuples_of_E {fr : Fr} {S : Store} : m_tuples_of fr S = (sSeq m_tuples_of_1 (sSeq m_tuples_of_2 m_tuples_of_4)) fr S := rfl
def F_tuples_of : FN := bodyF 6 m_tuples_of
def m_keys_of_1 : SM := sOwn 2 6 (eA mkLst (aN))
def m_keys_of_3 : SM := sExt 2 (eLc (iSeq (eCall 2 F_tuples_of (aC (eV 1) (aC (eV 4) (aN))))) (gSet 5) (bYes) (eA mkTup (aC (eV 3) (aC (eV 5) (aN)))) [5])
def m_keys_of_2 : SM := sFor (ggTup 2 (ggCons (gSet 3) (ggCons (gSet 4) (ggNil)))) (iSeq (eV 0))
    (m_keys_of_3)
def m_keys_of_4 : SM := sRet (eA1 sortV (eP 2))
def m_keys_of : SM := sSeq m_keys_of_1 (sSeq m_keys_of_2 m_keys_of_4)
theorem m_keys_of_1_E {fr : Fr} {S : Store} : m_keys_of_1 fr S = (sOwn 2 6 (eA mkLst (aN))) fr S := rfl
theorem m_keys_of_3_E {fr : Fr} {S : Store} : m_keys_of_3 fr S = (sExt 2 (eLc (iSeq (eCall 2 F_tuples_of (aC (eV 1) (aC (eV 4) (aN))))) (gSet 5) (bYes) (eA mkTup (aC (eV 3) (aC (eV 5) (aN)))) [5])) fr S := rfl
theorem m_keys_of_2_E {fr : Fr} {S : Store} : m_keys_of_2 fr S = (sFor (ggTup 2 (ggCons (gSet 3) (ggCons (gSet 4) (ggNil)))) (iSeq (eV 0))
    (m_keys_of_3)) fr S := rfl
theorem m_keys_of_4_E {fr : Fr} {S : Store} : m_keys_of_4 fr S = (sRet (eA1 sortV (eP 2))) fr S := rfl
theorem m_keys_of_E {fr : Fr} {S : Store} : m_keys_of fr S = (sSeq m_keys_of_1 (sSeq m_keys_of_2 m_keys_of_4)) fr S := rfl
def F_keys_of : FN := bodyF 6 m_keys_of
def m_are_truths_2 : SM := sRet (eC (.bool false))
def m_are_truths_1 : SM := sIf (bOr (bNot (bTr (e1 (isaV PyData.isTuple) (eV 0)))) (bNot (bB (eChain leV leV (eC (.int 1)) (eA1 lenV (eV 0)) (eC (.int 80)))))) (m_are_truths_2) (sNx)
def m_are_truths_3 : SM := sRet (eA1 allV (eLc (iSeq (eV 0)) (gSet 1) (bYes) (e1 (isaV PyData.isBool) (eV 1)) [1]))
def m_are_truths : SM := sSeq m_are_truths_1 m_are_truths_3
theorem m_are_truths_2_E {fr : Fr} {S : Store} : m_are_truths_2 fr S = (sRet (eC (.bool false))) fr S := rfl
theorem m_are_truths_1_E {fr : Fr} {S : Store} : m_are_truths_1 fr S = (sIf (bOr (bNot (bTr (e1 (isaV PyData.isTuple) (eV 0)))) (bNot (bB (eChain leV leV (eC (.int 1)) (eA1 lenV (eV 0)) (eC (.int 80)))))) (m_are_truths_2) (sNx)) fr S := rfl
theorem m_are_truths_3_E {fr : Fr} {S : Store} : m_are_truths_3 fr S = (sRet (eA1 allV (eLc (iSeq (eV 0)) (gSet 1) (bYes) (e1 (isaV PyData.isBool) (eV 1)) [1]))) fr S := rfl
theorem m_are_truths_E {fr : Fr} {S : Store} : m_are_truths fr S = (sSeq m_are_truths_1 m_are_truths_3) fr S := rfl
def F_are_truths : FN := bodyF 2 m_are_truths
def m_is_row_2 : SM := sRet (eC (.bool false))
def m_is_row_1 : SM := sIf (bOr (bNot (bTr (e1 (isaV PyData.isTuple) (eV 0)))) (bOr (bB (e2 (eqV true) (eA1 lenV (eV 0)) (eC (.int 3)))) (bOr (bNot (bTr (e1 (isaV PyData.isStr) (e2 ixV (eV 0) (eC (.int 0)))))) (bNot (bTr (e1 (isaV PyData.isTuple) (e2 ixV (eV 0) (eC (.int 1))))))))) (m_is_row_2) (sNx)
def m_is_row_4 : SM := sRet (eC (.bool false))
def m_is_row_3 : SM := sIf (bNot (bTr (eA1 allV (eLc (iSeq (e2 addV (e2 ixV (eV 0) (eC (.int 1))) (eSl (eV 0) (oS (eC (.int 2))) (oN)))) (gSet 3) (bYes) (eCall 3 F_is_number (aC (eV 3) (aC (eC (.int 0)) (aC (e2 subV (eV 2) (eC (.int 1))) (aN))))) [3])))) (m_is_row_4) (sNx)
def m_is_row_5 : SM := sRet (e2 (eqV false) (eSl (eV 0) (oN) (oS (eC (.int 2)))) (eV 1))
def m_is_row : SM := sSeq m_is_row_1 (sSeq m_is_row_3 m_is_row_5)
theorem m_is_row_2_E {fr : Fr} {S : Store} : m_is_row_2 fr S = (sRet (eC (.bool false))) fr S := rfl
theorem m_is_row_1_E {fr : Fr} {S : Store} : m_is_row_1 fr S = (sIf (bOr (bNot (bTr (e1 (isaV PyData.isTuple) (eV 0)))) (bOr (bB (e2 (eqV true) (eA1 lenV (eV 0)) (eC (.int 3)))) (bOr (bNot (bTr (e1 (isaV PyData.isStr) (e2 ixV (eV 0) (eC (.int 0)))))) (bNot (bTr (e1 (isaV PyData.isTuple) (e2 ixV (eV 0) (eC (.int 1))))))))) (m_is_row_2) (sNx)) fr S := rfl
theorem m_is_row_4_E {fr : Fr} {S : Store} : m_is_row_4 fr S = (sRet (eC (.bool false))) fr S := rfl
theorem m_is_row_3_E {fr : Fr} {S : Store} : m_is_row_3 fr S = (sIf (bNot (bTr (eA1 allV (eLc (iSeq (e2 addV (e2 ixV (eV 0) (eC (.int 1))) (eSl (eV 0) (oS (eC (.int 2))) (oN)))) (gSet 3) (bYes) (eCall 3 F_is_number (aC (eV 3) (aC (eC (.int 0)) (aC (e2 subV (eV 2) (eC (.int 1))) (aN))))) [3])))) (m_is_row_4) (sNx)) fr S := rfl
theorem m_is_row_5_E {fr : Fr} {S : Store} : m_is_row_5 fr S = (sRet (e2 (eqV false) (eSl (eV 0) (oN) (oS (eC (.int 2)))) (eV 1))) fr S := rfl
theorem m_is_row_E {fr : Fr} {S : Store} : m_is_row fr S = (sSeq m_is_row_1 (sSeq m_is_row_3 m_is_row_5)) fr S := rfl
def F_is_row : FN := bodyF 4 m_is_row
def m_is_judge_2 : SM := sRet (eC (.bool false))
def m_is_judge_1 : SM := sIf (bOr (bNot (bTr (e1 (isaV PyData.isTuple) (eV 1)))) (bOr (bB (e2 (eqV true) (eA1 lenV (eV 1)) (eC (.int 2)))) (bOr (bNot (bTr (eCall 1 F_are_truths (aC (e2 ixV (eV 1) (eC (.int 0))) (aN))))) (bNot (bTr (e1 (isaV PyData.isTuple) (e2 ixV (eV 1) (eC (.int 1))))))))) (m_is_judge_2) (sNx)
def m_is_judge_3 : SM := sAsg (gSet 2) (fE (eA1 lenV (e2 ixV (eV 1) (eC (.int 0)))))
def m_is_judge_5 : SM := sRet (eC (.bool false))
def m_is_judge_4 : SM := sIf (bB (e2 (eqV true) (eA1 lenV (e2 ixV (eV 1) (eC (.int 1)))) (eA1 sumV (eLc (iSeq (eV 0)) (ggTup 2 (ggCons (gSet 3) (ggCons (gSet 4) (ggNil)))) (bYes) (e2 ixV (eA mkLst (aC (eC (.int 1)) (aC (eV 2) (aC (e2 mulV (eV 2) (eV 2)) (aN))))) (eV 4)) [3, 4])))) (m_is_judge_5) (sNx)
def m_is_judge_6 : SM := sRet (eA1 allV (eLc (iA zipV (aC (e2 ixV (eV 1) (eC (.int 1))) (aC (eCall 2 F_keys_of (aC (eV 0) (aC (eV 2) (aN)))) (aN)))) (ggTup 2 (ggCons (gSet 5) (ggCons (gSet 6) (ggNil)))) (bYes) (eCall 3 F_is_row (aC (eV 5) (aC (eV 6) (aC (eV 2) (aN))))) [5, 6]))
def m_is_judge : SM := sSeq m_is_judge_1 (sSeq m_is_judge_3 (sSeq m_is_judge_4 m_is_judge_6))
theorem m_is_judge_2_E {fr : Fr} {S : Store} : m_is_judge_2 fr S = (sRet (eC (.bool false))) fr S := rfl
theorem m_is_judge_1_E {fr : Fr} {S : Store} : m_is_judge_1 fr S = (sIf (bOr (bNot (bTr (e1 (isaV PyData.isTuple) (eV 1)))) (bOr (bB (e2 (eqV true) (eA1 lenV (eV 1)) (eC (.int 2)))) (bOr (bNot (bTr (eCall 1 F_are_truths (aC (e2 ixV (eV 1) (eC (.int 0))) (aN))))) (bNot (bTr (e1 (isaV PyData.isTuple) (e2 ixV (eV 1) (eC (.int 1))))))))) (m_is_judge_2) (sNx)) fr S := rfl
theorem m_is_judge_3_E {fr : Fr} {S : Store} : m_is_judge_3 fr S = (sAsg (gSet 2) (fE (eA1 lenV (e2 ixV (eV 1) (eC (.int 0)))))) fr S := rfl
theorem m_is_judge_5_E {fr : Fr} {S : Store} : m_is_judge_5 fr S = (sRet (eC (.bool false))) fr S := rfl
theorem m_is_judge_4_E {fr : Fr} {S : Store} : m_is_judge_4 fr S = (sIf (bB (e2 (eqV true) (eA1 lenV (e2 ixV (eV 1) (eC (.int 1)))) (eA1 sumV (eLc (iSeq (eV 0)) (ggTup 2 (ggCons (gSet 3) (ggCons (gSet 4) (ggNil)))) (bYes) (e2 ixV (eA mkLst (aC (eC (.int 1)) (aC (eV 2) (aC (e2 mulV (eV 2) (eV 2)) (aN))))) (eV 4)) [3, 4])))) (m_is_judge_5) (sNx)) fr S := rfl
theorem m_is_judge_6_E {fr : Fr} {S : Store} : m_is_judge_6 fr S = (sRet (eA1 allV (eLc (iA zipV (aC (e2 ixV (eV 1) (eC (.int 1))) (aC (eCall 2 F_keys_of (aC (eV 0) (aC (eV 2) (aN)))) (aN)))) (ggTup 2 (ggCons (gSet 5) (ggCons (gSet 6) (ggNil)))) (bYes) (eCall 3 F_is_row (aC (eV 5) (aC (eV 6) (aC (eV 2) (aN))))) [5, 6]))) fr S := rfl
theorem m_is_judge_E {fr : Fr} {S : Store} : m_is_judge fr S = (sSeq m_is_judge_1 (sSeq m_is_judge_3 (sSeq m_is_judge_4 m_is_judge_6))) fr S := rfl
def F_is_judge : FN := bodyF 7 m_is_judge
def m__law_tuples_1 : SM := sAsg (gSet 2) (fE (eA mkLst (aC (eA mkTup (aN)) (aN))))
def m__law_tuples_3 : SM := sOwn 4 7 (eA mkLst (aN))
def m__law_tuples_5 : SM := sExt 4 (eLc (iA rng1V (aC (eV 0) (aN))) (gSet 6) (bYes) (e2 addV (eV 5) (eA mkTup (aC (eV 6) (aN)))) [6])
def m__law_tuples_4 : SM := sFor (gSet 5) (iSeq (eV 2))
    (m__law_tuples_5)
def m__law_tuples_6 : SM := sAsg (gSet 2) (fE (eV 4))
def m__law_tuples_2 : SM := sFor (gSet 3) (iA rng1V (aC (eV 1) (aN)))
    (sSeq m__law_tuples_3 (sSeq m__law_tuples_4 m__law_tuples_6))
def m__law_tuples_7 : SM := sRet (eV 2)
def m__law_tuples : SM := sSeq m__law_tuples_1 (sSeq m__law_tuples_2 m__law_tuples_7)
theorem m__law_tuples_1_E {fr : Fr} {S : Store} : m__law_tuples_1 fr S = (sAsg (gSet 2) (fE (eA mkLst (aC (eA mkTup (aN)) (aN))))) fr S := rfl
theorem m__law_tuples_3_E {fr : Fr} {S : Store} : m__law_tuples_3 fr S = (sOwn 4 7 (eA mkLst (aN))) fr S := rfl
theorem m__law_tuples_5_E {fr : Fr} {S : Store} : m__law_tuples_5 fr S = (sExt 4 (eLc (iA rng1V (aC (eV 0) (aN))) (gSet 6) (bYes) (e2 addV (eV 5) (eA mkTup (aC (eV 6) (aN)))) [6])) fr S := rfl
theorem m__law_tuples_4_E {fr : Fr} {S : Store} : m__law_tuples_4 fr S = (sFor (gSet 5) (iSeq (eV 2))
    (m__law_tuples_5)) fr S := rfl
theorem m__law_tuples_6_E {fr : Fr} {S : Store} : m__law_tuples_6 fr S = (sAsg (gSet 2) (fE (eV 4))) fr S := rfl
theorem m__law_tuples_2_E {fr : Fr} {S : Store} : m__law_tuples_2 fr S = (sFor (gSet 3) (iA rng1V (aC (eV 1) (aN)))
    (sSeq m__law_tuples_3 (sSeq m__law_tuples_4 m__law_tuples_6))) fr S := rfl
theorem m__law_tuples_7_E {fr : Fr} {S : Store} : m__law_tuples_7 fr S = (sRet (eV 2)) fr S := rfl
theorem m__law_tuples_E {fr : Fr} {S : Store} : m__law_tuples fr S = (sSeq m__law_tuples_1 (sSeq m__law_tuples_2 m__law_tuples_7)) fr S := rfl
def F__law_tuples : FN := bodyF 7 m__law_tuples
def m__law_judge_1 : SM := sOwn 3 8 (eA mkLst (aN))
def m__law_judge_3 : SM := sExt 3 (eLc (iSeq (eCall 2 F__law_tuples (aC (eV 2) (aC (eV 5) (aN))))) (gSet 6) (bYes) (eA mkTup (aC (eV 4) (aC (eV 6) (aC (eCall 2 F__law_draw (aC (eV 0) (aC (eV 2) (aN)))) (aN))))) [6])
def m__law_judge_2 : SM := sFor (ggTup 2 (ggCons (gSet 4) (ggCons (gSet 5) (ggNil)))) (iSeq (eV 1))
    (m__law_judge_3)
def m__law_judge_4 : SM := sRet (eA mkTup (aC (eA1 tupleV (eLc (iA rng1V (aC (eV 2) (aN))) (gSet 7) (bYes) (e2 (eqV false) (eCall 2 F__law_draw (aC (eV 0) (aC (eC (.int 2)) (aN)))) (eC (.int 0))) [7])) (aC (eA1 tupleV (eA1 sortV (eP 3))) (aN))))
def m__law_judge : SM := sSeq m__law_judge_1 (sSeq m__law_judge_2 m__law_judge_4)
theorem m__law_judge_1_E {fr : Fr} {S : Store} : m__law_judge_1 fr S = (sOwn 3 8 (eA mkLst (aN))) fr S := rfl
theorem m__law_judge_3_E {fr : Fr} {S : Store} : m__law_judge_3 fr S = (sExt 3 (eLc (iSeq (eCall 2 F__law_tuples (aC (eV 2) (aC (eV 5) (aN))))) (gSet 6) (bYes) (eA mkTup (aC (eV 4) (aC (eV 6) (aC (eCall 2 F__law_draw (aC (eV 0) (aC (eV 2) (aN)))) (aN))))) [6])) fr S := rfl
theorem m__law_judge_2_E {fr : Fr} {S : Store} : m__law_judge_2 fr S = (sFor (ggTup 2 (ggCons (gSet 4) (ggCons (gSet 5) (ggNil)))) (iSeq (eV 1))
    (m__law_judge_3)) fr S := rfl
theorem m__law_judge_4_E {fr : Fr} {S : Store} : m__law_judge_4 fr S = (sRet (eA mkTup (aC (eA1 tupleV (eLc (iA rng1V (aC (eV 2) (aN))) (gSet 7) (bYes) (e2 (eqV false) (eCall 2 F__law_draw (aC (eV 0) (aC (eC (.int 2)) (aN)))) (eC (.int 0))) [7])) (aC (eA1 tupleV (eA1 sortV (eP 3))) (aN))))) fr S := rfl
theorem m__law_judge_E {fr : Fr} {S : Store} : m__law_judge fr S = (sSeq m__law_judge_1 (sSeq m__law_judge_2 m__law_judge_4)) fr S := rfl
def F__law_judge : FN := bodyF 8 m__law_judge
def m__law_whole_1 : SM := sRet (eAnd (e1 (isaV PyData.isInt) (eV 0)) (eAnd (eNot (e1 (isaV PyData.isBool) (eV 0))) (eChain leV ltD (eC (.int 0)) (eV 0) (eV 1))))
def m__law_whole : SM := m__law_whole_1
theorem m__law_whole_1_E {fr : Fr} {S : Store} : m__law_whole_1 fr S = (sRet (eAnd (e1 (isaV PyData.isInt) (eV 0)) (eAnd (eNot (e1 (isaV PyData.isBool) (eV 0))) (eChain leV ltD (eC (.int 0)) (eV 0) (eV 1))))) fr S := rfl
theorem m__law_whole_E {fr : Fr} {S : Store} : m__law_whole fr S = (m__law_whole_1) fr S := rfl
def F__law_whole : FN := bodyF 2 m__law_whole
def m__law_is_judge_2 : SM := sRet (eC (.bool false))
def m__law_is_judge_1 : SM := sIf (bOr (bNot (bTr (e1 (isaV PyData.isTuple) (eV 1)))) (bOr (bB (e2 (eqV true) (eA1 lenV (eV 1)) (eC (.int 2)))) (bNot (bTr (e1 (isaV PyData.isTuple) (e2 ixV (eV 1) (eC (.int 0)))))))) (m__law_is_judge_2) (sNx)
def m__law_is_judge_3 : SM := sPar [2, 3, 4] 11 (aC (e2 ixV (eV 1) (eC (.int 0))) (aC (e2 ixV (eV 1) (eC (.int 1))) (aC (eA mkLst (aN)) (aN))))
def m__law_is_judge_5 : SM := sRet (eC (.bool false))
def m__law_is_judge_4 : SM := sIf (bOr (bNot (bB (eChain leV leV (eC (.int 1)) (eA1 lenV (eV 2)) (eC (.int 80))))) (bNot (bTr (eA1 allV (eLc (iSeq (eV 2)) (gSet 8) (bYes) (e1 (isaV PyData.isBool) (eV 8)) [8]))))) (m__law_is_judge_5) (sNx)
def m__law_is_judge_7 : SM := sExt 4 (eLc (iSeq (eCall 2 F__law_tuples (aC (eA1 lenV (eV 2)) (aC (eV 6) (aN))))) (gSet 9) (bYes) (eA mkTup (aC (eV 5) (aC (eV 9) (aN)))) [9])
def m__law_is_judge_6 : SM := sFor (ggTup 2 (ggCons (gSet 5) (ggCons (gSet 6) (ggNil)))) (iSeq (eV 0))
    (m__law_is_judge_7)
def m__law_is_judge_9 : SM := sRet (eC (.bool false))
def m__law_is_judge_8 : SM := sIf (bOr (bNot (bTr (e1 (isaV PyData.isTuple) (eV 3)))) (bB (e2 (eqV true) (eA1 lenV (eV 3)) (eA1 lenV (eP 4))))) (m__law_is_judge_9) (sNx)
def m__law_is_judge_12 : SM := sRet (eC (.bool false))
def m__law_is_judge_11 : SM := sIf (bOr (bNot (bTr (e1 (isaV PyData.isTuple) (eV 7)))) (bOr (bB (e2 (eqV true) (eA1 lenV (eV 7)) (eC (.int 3)))) (bNot (bTr (e1 (isaV PyData.isTuple) (e2 ixV (eV 7) (eC (.int 1)))))))) (m__law_is_judge_12) (sNx)
def m__law_is_judge_14 : SM := sRet (eC (.bool false))
def m__law_is_judge_13 : SM := sIf (bNot (bTr (eA1 allV (eLc (iSeq (e2 addV (e2 ixV (eV 7) (eC (.int 1))) (eSl (eV 7) (oS (eC (.int 2))) (oN)))) (gSet 10) (bYes) (eCall 2 F__law_whole (aC (eV 10) (aC (eA1 lenV (eV 2)) (aN)))) [10])))) (m__law_is_judge_14) (sNx)
def m__law_is_judge_10 : SM := sFor (gSet 7) (iSeq (eV 3))
    (sSeq m__law_is_judge_11 m__law_is_judge_13)
def m__law_is_judge_15 : SM := sRet (e2 (eqV false) (eA1 reprVD (eLc (iSeq (eV 3)) (gSet 7) (bYes) (eSl (eV 7) (oN) (oS (eC (.int 2)))) [7])) (eA1 reprVD (eA1 sortV (eP 4))))
def m__law_is_judge : SM := sSeq m__law_is_judge_1 (sSeq m__law_is_judge_3 (sSeq m__law_is_judge_4 (sSeq m__law_is_judge_6 (sSeq m__law_is_judge_8 (sSeq m__law_is_judge_10 m__law_is_judge_15)))))
theorem m__law_is_judge_2_E {fr : Fr} {S : Store} : m__law_is_judge_2 fr S = (sRet (eC (.bool false))) fr S := rfl
theorem m__law_is_judge_1_E {fr : Fr} {S : Store} : m__law_is_judge_1 fr S = (sIf (bOr (bNot (bTr (e1 (isaV PyData.isTuple) (eV 1)))) (bOr (bB (e2 (eqV true) (eA1 lenV (eV 1)) (eC (.int 2)))) (bNot (bTr (e1 (isaV PyData.isTuple) (e2 ixV (eV 1) (eC (.int 0)))))))) (m__law_is_judge_2) (sNx)) fr S := rfl
theorem m__law_is_judge_3_E {fr : Fr} {S : Store} : m__law_is_judge_3 fr S = (sPar [2, 3, 4] 11 (aC (e2 ixV (eV 1) (eC (.int 0))) (aC (e2 ixV (eV 1) (eC (.int 1))) (aC (eA mkLst (aN)) (aN))))) fr S := rfl
theorem m__law_is_judge_5_E {fr : Fr} {S : Store} : m__law_is_judge_5 fr S = (sRet (eC (.bool false))) fr S := rfl
theorem m__law_is_judge_4_E {fr : Fr} {S : Store} : m__law_is_judge_4 fr S = (sIf (bOr (bNot (bB (eChain leV leV (eC (.int 1)) (eA1 lenV (eV 2)) (eC (.int 80))))) (bNot (bTr (eA1 allV (eLc (iSeq (eV 2)) (gSet 8) (bYes) (e1 (isaV PyData.isBool) (eV 8)) [8]))))) (m__law_is_judge_5) (sNx)) fr S := rfl
theorem m__law_is_judge_7_E {fr : Fr} {S : Store} : m__law_is_judge_7 fr S = (sExt 4 (eLc (iSeq (eCall 2 F__law_tuples (aC (eA1 lenV (eV 2)) (aC (eV 6) (aN))))) (gSet 9) (bYes) (eA mkTup (aC (eV 5) (aC (eV 9) (aN)))) [9])) fr S := rfl
theorem m__law_is_judge_6_E {fr : Fr} {S : Store} : m__law_is_judge_6 fr S = (sFor (ggTup 2 (ggCons (gSet 5) (ggCons (gSet 6) (ggNil)))) (iSeq (eV 0))
    (m__law_is_judge_7)) fr S := rfl
theorem m__law_is_judge_9_E {fr : Fr} {S : Store} : m__law_is_judge_9 fr S = (sRet (eC (.bool false))) fr S := rfl
theorem m__law_is_judge_8_E {fr : Fr} {S : Store} : m__law_is_judge_8 fr S = (sIf (bOr (bNot (bTr (e1 (isaV PyData.isTuple) (eV 3)))) (bB (e2 (eqV true) (eA1 lenV (eV 3)) (eA1 lenV (eP 4))))) (m__law_is_judge_9) (sNx)) fr S := rfl
theorem m__law_is_judge_12_E {fr : Fr} {S : Store} : m__law_is_judge_12 fr S = (sRet (eC (.bool false))) fr S := rfl
theorem m__law_is_judge_11_E {fr : Fr} {S : Store} : m__law_is_judge_11 fr S = (sIf (bOr (bNot (bTr (e1 (isaV PyData.isTuple) (eV 7)))) (bOr (bB (e2 (eqV true) (eA1 lenV (eV 7)) (eC (.int 3)))) (bNot (bTr (e1 (isaV PyData.isTuple) (e2 ixV (eV 7) (eC (.int 1)))))))) (m__law_is_judge_12) (sNx)) fr S := rfl
theorem m__law_is_judge_14_E {fr : Fr} {S : Store} : m__law_is_judge_14 fr S = (sRet (eC (.bool false))) fr S := rfl
theorem m__law_is_judge_13_E {fr : Fr} {S : Store} : m__law_is_judge_13 fr S = (sIf (bNot (bTr (eA1 allV (eLc (iSeq (e2 addV (e2 ixV (eV 7) (eC (.int 1))) (eSl (eV 7) (oS (eC (.int 2))) (oN)))) (gSet 10) (bYes) (eCall 2 F__law_whole (aC (eV 10) (aC (eA1 lenV (eV 2)) (aN)))) [10])))) (m__law_is_judge_14) (sNx)) fr S := rfl
theorem m__law_is_judge_10_E {fr : Fr} {S : Store} : m__law_is_judge_10 fr S = (sFor (gSet 7) (iSeq (eV 3))
    (sSeq m__law_is_judge_11 m__law_is_judge_13)) fr S := rfl
theorem m__law_is_judge_15_E {fr : Fr} {S : Store} : m__law_is_judge_15 fr S = (sRet (e2 (eqV false) (eA1 reprVD (eLc (iSeq (eV 3)) (gSet 7) (bYes) (eSl (eV 7) (oN) (oS (eC (.int 2)))) [7])) (eA1 reprVD (eA1 sortV (eP 4))))) fr S := rfl
theorem m__law_is_judge_E {fr : Fr} {S : Store} : m__law_is_judge fr S = (sSeq m__law_is_judge_1 (sSeq m__law_is_judge_3 (sSeq m__law_is_judge_4 (sSeq m__law_is_judge_6 (sSeq m__law_is_judge_8 (sSeq m__law_is_judge_10 m__law_is_judge_15)))))) fr S := rfl
def F__law_is_judge : FN := bodyF 11 m__law_is_judge
def m__law_odd_1 : SM := sRet (eCall 2 F__law_one (aC (eV 0) (aC (eA mkLst (aC (eC .none) (aC (eC (.bool true)) (aC (eC (.bool false)) (aC (eC (.int 0)) (aC (eC (.int 1)) (aC (eC (.int 2)) (aC (e1 negV (eC (.int 1))) (aC (eC (.str "end")) (aC (eA mkTup (aN)) (aC (eA mkLst (aN)) (aC (eC (.dict [])) (aC (eA mkTup (aC (eC (.int 0)) (aN))) (aC (eA mkTup (aC (eC (.bool true)) (aN))) (aC (eA mkTup (aC (eC (.str "end")) (aC (eA mkTup (aN)) (aC (eC (.int 0)) (aN))))) (aC (e2 powV (eC (.int 10)) (eC (.int 20))) (aN))))))))))))))))) (aN))))
def m__law_odd : SM := m__law_odd_1
theorem m__law_odd_1_E {fr : Fr} {S : Store} : m__law_odd_1 fr S = (sRet (eCall 2 F__law_one (aC (eV 0) (aC (eA mkLst (aC (eC .none) (aC (eC (.bool true)) (aC (eC (.bool false)) (aC (eC (.int 0)) (aC (eC (.int 1)) (aC (eC (.int 2)) (aC (e1 negV (eC (.int 1))) (aC (eC (.str "end")) (aC (eA mkTup (aN)) (aC (eA mkLst (aN)) (aC (eC (.dict [])) (aC (eA mkTup (aC (eC (.int 0)) (aN))) (aC (eA mkTup (aC (eC (.bool true)) (aN))) (aC (eA mkTup (aC (eC (.str "end")) (aC (eA mkTup (aN)) (aC (eC (.int 0)) (aN))))) (aC (e2 powV (eC (.int 10)) (eC (.int 20))) (aN))))))))))))))))) (aN))))) fr S := rfl
theorem m__law_odd_E {fr : Fr} {S : Store} : m__law_odd fr S = (m__law_odd_1) fr S := rfl
def F__law_odd : FN := bodyF 1 m__law_odd
def m__law_bent_2_ (F__law_bent_ : FN) : SM := sRet (eCall 1 F__law_odd (aC (eV 0) (aN)))
def m__law_bent_1_ (F__law_bent_ : FN) : SM := sIf (bOr (bB (e2 (eqV false) (eV 2) (eC (.int 0)))) (bOr (bNot (bTr (e1 (isaV PyData.isTuple) (eV 1)))) (bOr (bB (e2 (eqV false) (eV 1) (eA mkTup (aN)))) (bB (e2 (eqV false) (eCall 2 F__law_draw (aC (eV 0) (aC (eC (.int 5)) (aN)))) (eC (.int 0))))))) ((m__law_bent_2_ F__law_bent_)) (sNx)
def m__law_bent_3_ (F__law_bent_ : FN) : SM := sPar [3, 4] 5 (aC (eCall 2 F__law_draw (aC (eV 0) (aC (eA1 lenV (eV 1)) (aN)))) (aC (eCall 2 F__law_draw (aC (eV 0) (aC (eC (.int 12)) (aN)))) (aN)))
def m__law_bent_5_ (F__law_bent_ : FN) : SM := sRet (e2 addV (eSl (eV 1) (oN) (oS (eV 3))) (eSl (eV 1) (oS (e2 addV (eV 3) (eC (.int 1)))) (oN)))
def m__law_bent_4_ (F__law_bent_ : FN) : SM := sIf (bB (e2 (eqV false) (eV 4) (eC (.int 0)))) ((m__law_bent_5_ F__law_bent_)) (sNx)
def m__law_bent_7_ (F__law_bent_ : FN) : SM := sRet (e2 addV (e2 addV (eSl (eV 1) (oN) (oS (eV 3))) (eSl (eV 1) (oS (eV 3)) (oS (e2 addV (eV 3) (eC (.int 1)))))) (eSl (eV 1) (oS (eV 3)) (oN)))
def m__law_bent_6_ (F__law_bent_ : FN) : SM := sIf (bB (e2 (eqV false) (eV 4) (eC (.int 1)))) ((m__law_bent_7_ F__law_bent_)) (sNx)
def m__law_bent_9_ (F__law_bent_ : FN) : SM := sRet (e1 revA (eV 1))
def m__law_bent_8_ (F__law_bent_ : FN) : SM := sIf (bB (e2 (eqV false) (eV 4) (eC (.int 2)))) ((m__law_bent_9_ F__law_bent_)) (sNx)
def m__law_bent_11_ (F__law_bent_ : FN) : SM := sRet (eA1 listV (eV 1))
def m__law_bent_10_ (F__law_bent_ : FN) : SM := sIf (bB (e2 (eqV false) (eV 4) (eC (.int 3)))) ((m__law_bent_11_ F__law_bent_)) (sNx)
def m__law_bent_12_ (F__law_bent_ : FN) : SM := sRet (e2 addV (e2 addV (eSl (eV 1) (oN) (oS (eV 3))) (eA mkTup (aC (eCall 3 F__law_bent_ (aC (eV 0) (aC (e2 ixV (eV 1) (eV 3)) (aC (e2 subV (eV 2) (eC (.int 1))) (aN))))) (aN)))) (eSl (eV 1) (oS (e2 addV (eV 3) (eC (.int 1)))) (oN)))
def m__law_bent_ (F__law_bent_ : FN) : SM := sSeq (m__law_bent_1_ F__law_bent_) (sSeq (m__law_bent_3_ F__law_bent_) (sSeq (m__law_bent_4_ F__law_bent_) (sSeq (m__law_bent_6_ F__law_bent_) (sSeq (m__law_bent_8_ F__law_bent_) (sSeq (m__law_bent_10_ F__law_bent_) (m__law_bent_12_ F__law_bent_))))))
theorem m__law_bent_2_E {F__law_bent_ : FN} {fr : Fr} {S : Store} : m__law_bent_2_ F__law_bent_ fr S = (sRet (eCall 1 F__law_odd (aC (eV 0) (aN)))) fr S := rfl
theorem m__law_bent_1_E {F__law_bent_ : FN} {fr : Fr} {S : Store} : m__law_bent_1_ F__law_bent_ fr S = (sIf (bOr (bB (e2 (eqV false) (eV 2) (eC (.int 0)))) (bOr (bNot (bTr (e1 (isaV PyData.isTuple) (eV 1)))) (bOr (bB (e2 (eqV false) (eV 1) (eA mkTup (aN)))) (bB (e2 (eqV false) (eCall 2 F__law_draw (aC (eV 0) (aC (eC (.int 5)) (aN)))) (eC (.int 0))))))) ((m__law_bent_2_ F__law_bent_)) (sNx)) fr S := rfl
theorem m__law_bent_3_E {F__law_bent_ : FN} {fr : Fr} {S : Store} : m__law_bent_3_ F__law_bent_ fr S = (sPar [3, 4] 5 (aC (eCall 2 F__law_draw (aC (eV 0) (aC (eA1 lenV (eV 1)) (aN)))) (aC (eCall 2 F__law_draw (aC (eV 0) (aC (eC (.int 12)) (aN)))) (aN)))) fr S := rfl
theorem m__law_bent_5_E {F__law_bent_ : FN} {fr : Fr} {S : Store} : m__law_bent_5_ F__law_bent_ fr S = (sRet (e2 addV (eSl (eV 1) (oN) (oS (eV 3))) (eSl (eV 1) (oS (e2 addV (eV 3) (eC (.int 1)))) (oN)))) fr S := rfl
theorem m__law_bent_4_E {F__law_bent_ : FN} {fr : Fr} {S : Store} : m__law_bent_4_ F__law_bent_ fr S = (sIf (bB (e2 (eqV false) (eV 4) (eC (.int 0)))) ((m__law_bent_5_ F__law_bent_)) (sNx)) fr S := rfl
theorem m__law_bent_7_E {F__law_bent_ : FN} {fr : Fr} {S : Store} : m__law_bent_7_ F__law_bent_ fr S = (sRet (e2 addV (e2 addV (eSl (eV 1) (oN) (oS (eV 3))) (eSl (eV 1) (oS (eV 3)) (oS (e2 addV (eV 3) (eC (.int 1)))))) (eSl (eV 1) (oS (eV 3)) (oN)))) fr S := rfl
theorem m__law_bent_6_E {F__law_bent_ : FN} {fr : Fr} {S : Store} : m__law_bent_6_ F__law_bent_ fr S = (sIf (bB (e2 (eqV false) (eV 4) (eC (.int 1)))) ((m__law_bent_7_ F__law_bent_)) (sNx)) fr S := rfl
theorem m__law_bent_9_E {F__law_bent_ : FN} {fr : Fr} {S : Store} : m__law_bent_9_ F__law_bent_ fr S = (sRet (e1 revA (eV 1))) fr S := rfl
theorem m__law_bent_8_E {F__law_bent_ : FN} {fr : Fr} {S : Store} : m__law_bent_8_ F__law_bent_ fr S = (sIf (bB (e2 (eqV false) (eV 4) (eC (.int 2)))) ((m__law_bent_9_ F__law_bent_)) (sNx)) fr S := rfl
theorem m__law_bent_11_E {F__law_bent_ : FN} {fr : Fr} {S : Store} : m__law_bent_11_ F__law_bent_ fr S = (sRet (eA1 listV (eV 1))) fr S := rfl
theorem m__law_bent_10_E {F__law_bent_ : FN} {fr : Fr} {S : Store} : m__law_bent_10_ F__law_bent_ fr S = (sIf (bB (e2 (eqV false) (eV 4) (eC (.int 3)))) ((m__law_bent_11_ F__law_bent_)) (sNx)) fr S := rfl
theorem m__law_bent_12_E {F__law_bent_ : FN} {fr : Fr} {S : Store} : m__law_bent_12_ F__law_bent_ fr S = (sRet (e2 addV (e2 addV (eSl (eV 1) (oN) (oS (eV 3))) (eA mkTup (aC (eCall 3 F__law_bent_ (aC (eV 0) (aC (e2 ixV (eV 1) (eV 3)) (aC (e2 subV (eV 2) (eC (.int 1))) (aN))))) (aN)))) (eSl (eV 1) (oS (e2 addV (eV 3) (eC (.int 1)))) (oN)))) fr S := rfl
theorem m__law_bent_E {F__law_bent_ : FN} {fr : Fr} {S : Store} : m__law_bent_ F__law_bent_ fr S = (sSeq (m__law_bent_1_ F__law_bent_) (sSeq (m__law_bent_3_ F__law_bent_) (sSeq (m__law_bent_4_ F__law_bent_) (sSeq (m__law_bent_6_ F__law_bent_) (sSeq (m__law_bent_8_ F__law_bent_) (sSeq (m__law_bent_10_ F__law_bent_) (m__law_bent_12_ F__law_bent_))))))) fr S := rfl
def F__law_bent : Nat → FN
  | 0 => fun _ _ => .bad
  | n + 1 => bodyF 5 (m__law_bent_ (F__law_bent n))
def m_law_1 : SM := sAsg (gSet 1) (fE (eCall 1 F__law_deck (aC (eV 0) (aN))))
def m_law_2 : SM := sAsg (gSet 2) (fE (eCall 2 F__law_signs (aC (eV 1) (aC (eC (.int 3)) (aN)))))
def m_law_4 : SM := sAsg (gSet 4) (fE (eCall 3 F__law_kind (aC (eV 1) (aC (eV 2) (aC (eC (.int 3)) (aN))))))
def m_law_5 : SM := sAsg (gSet 5) (fE (eCall 3 F__law_judge (aC (eV 1) (aC (eV 4) (aC (e2 addV (eC (.int 1)) (eCall 2 F__law_draw (aC (eV 1) (aC (eC (.int 4)) (aN))))) (aN))))))
def m_law_6 : SM := sOwn 6 11 (eA mkLst (aC (eV 5) (aC (eCall 1 F__law_odd (aC (eV 1) (aN))) (aC (eA mkTup (aC (e2 ixV (eV 5) (eC (.int 0))) (aC (eSl (e2 ixV (eV 5) (eC (.int 1))) (oN) (oS (e1 negV (eC (.int 1))))) (aN)))) (aC (eA mkTup (aC (eA mkTup (aN)) (aC (eA mkTup (aN)) (aN)))) (aC (eCall 3 F__law_judge (aC (eV 1) (aC (eSl (eV 4) (oN) (oS (e1 negV (eC (.int 1))))) (aC (eC (.int 2)) (aN))))) (aN)))))))
def m_law_8 : SM := sAsg (gSet 8) (fE (eCall 3 (F__law_bent 100) (aC (eV 1) (aC (eV 5) (aC (eC (.int 4)) (aN))))))
def m_law_9 : SM := sExt 6 (eA mkLst (aC (eV 8) (aC (eCall 3 (F__law_bent 100) (aC (eV 1) (aC (eV 8) (aC (eC (.int 4)) (aN))))) (aN))))
def m_law_7 : SM := sFor (gSet 7) (iA rng1V (aC (eC (.int 8)) (aN)))
    (sSeq m_law_8 m_law_9)
def m_law_11 : SM := sAsg (gSet 10) (fE (eA1 reprVD (eV 9)))
def m_law_13 : SM := sRet (eC (.bool false))
def m_law_12 : SM := sIf (bOr (bB (e2 (eqV true) (eA1 reprVD (eCall 2 F_is_judge (aC (eV 4) (aC (eV 9) (aN))))) (eA1 reprVD (eCall 2 F__law_is_judge (aC (eV 4) (aC (eV 9) (aN))))))) (bB (e2 (eqV true) (eA1 reprVD (eV 9)) (eV 10)))) (m_law_13) (sNx)
def m_law_10 : SM := sFor (gSet 9) (iSeq (eV 6))
    (sSeq m_law_11 m_law_12)
def m_law_3 : SM := sFor (gSet 3) (iA rng1V (aC (eC (.int 4)) (aN)))
    (sSeq m_law_4 (sSeq m_law_5 (sSeq m_law_6 (sSeq m_law_7 m_law_10))))
def m_law_14 : SM := sRet (eC (.bool true))
def m_law : SM := sSeq m_law_1 (sSeq m_law_2 (sSeq m_law_3 m_law_14))
theorem m_law_1_E {fr : Fr} {S : Store} : m_law_1 fr S = (sAsg (gSet 1) (fE (eCall 1 F__law_deck (aC (eV 0) (aN))))) fr S := rfl
theorem m_law_2_E {fr : Fr} {S : Store} : m_law_2 fr S = (sAsg (gSet 2) (fE (eCall 2 F__law_signs (aC (eV 1) (aC (eC (.int 3)) (aN)))))) fr S := rfl
theorem m_law_4_E {fr : Fr} {S : Store} : m_law_4 fr S = (sAsg (gSet 4) (fE (eCall 3 F__law_kind (aC (eV 1) (aC (eV 2) (aC (eC (.int 3)) (aN))))))) fr S := rfl
theorem m_law_5_E {fr : Fr} {S : Store} : m_law_5 fr S = (sAsg (gSet 5) (fE (eCall 3 F__law_judge (aC (eV 1) (aC (eV 4) (aC (e2 addV (eC (.int 1)) (eCall 2 F__law_draw (aC (eV 1) (aC (eC (.int 4)) (aN))))) (aN))))))) fr S := rfl
theorem m_law_6_E {fr : Fr} {S : Store} : m_law_6 fr S = (sOwn 6 11 (eA mkLst (aC (eV 5) (aC (eCall 1 F__law_odd (aC (eV 1) (aN))) (aC (eA mkTup (aC (e2 ixV (eV 5) (eC (.int 0))) (aC (eSl (e2 ixV (eV 5) (eC (.int 1))) (oN) (oS (e1 negV (eC (.int 1))))) (aN)))) (aC (eA mkTup (aC (eA mkTup (aN)) (aC (eA mkTup (aN)) (aN)))) (aC (eCall 3 F__law_judge (aC (eV 1) (aC (eSl (eV 4) (oN) (oS (e1 negV (eC (.int 1))))) (aC (eC (.int 2)) (aN))))) (aN)))))))) fr S := rfl
theorem m_law_8_E {fr : Fr} {S : Store} : m_law_8 fr S = (sAsg (gSet 8) (fE (eCall 3 (F__law_bent 100) (aC (eV 1) (aC (eV 5) (aC (eC (.int 4)) (aN))))))) fr S := rfl
theorem m_law_9_E {fr : Fr} {S : Store} : m_law_9 fr S = (sExt 6 (eA mkLst (aC (eV 8) (aC (eCall 3 (F__law_bent 100) (aC (eV 1) (aC (eV 8) (aC (eC (.int 4)) (aN))))) (aN))))) fr S := rfl
theorem m_law_7_E {fr : Fr} {S : Store} : m_law_7 fr S = (sFor (gSet 7) (iA rng1V (aC (eC (.int 8)) (aN)))
    (sSeq m_law_8 m_law_9)) fr S := rfl
theorem m_law_11_E {fr : Fr} {S : Store} : m_law_11 fr S = (sAsg (gSet 10) (fE (eA1 reprVD (eV 9)))) fr S := rfl
theorem m_law_13_E {fr : Fr} {S : Store} : m_law_13 fr S = (sRet (eC (.bool false))) fr S := rfl
theorem m_law_12_E {fr : Fr} {S : Store} : m_law_12 fr S = (sIf (bOr (bB (e2 (eqV true) (eA1 reprVD (eCall 2 F_is_judge (aC (eV 4) (aC (eV 9) (aN))))) (eA1 reprVD (eCall 2 F__law_is_judge (aC (eV 4) (aC (eV 9) (aN))))))) (bB (e2 (eqV true) (eA1 reprVD (eV 9)) (eV 10)))) (m_law_13) (sNx)) fr S := rfl
theorem m_law_10_E {fr : Fr} {S : Store} : m_law_10 fr S = (sFor (gSet 9) (iSeq (eV 6))
    (sSeq m_law_11 m_law_12)) fr S := rfl
theorem m_law_3_E {fr : Fr} {S : Store} : m_law_3 fr S = (sFor (gSet 3) (iA rng1V (aC (eC (.int 4)) (aN)))
    (sSeq m_law_4 (sSeq m_law_5 (sSeq m_law_6 (sSeq m_law_7 m_law_10))))) fr S := rfl
theorem m_law_14_E {fr : Fr} {S : Store} : m_law_14 fr S = (sRet (eC (.bool true))) fr S := rfl
theorem m_law_E {fr : Fr} {S : Store} : m_law fr S = (sSeq m_law_1 (sSeq m_law_2 (sSeq m_law_3 m_law_14))) fr S := rfl
def F_law : FN := bodyF 11 m_law
structure At (K : PySem.W.Frag) (mg : Str → Option Value) where
  f_is_number : Addr
  d_is_number : FuncData
  w_is_number : Fun K "is_number" "is_number" s_is_number f_is_number d_is_number
  b_is_number : Binds K d_is_number ["value", "least", "most"] []
  g_is_number : mg "is_number" = some (.ref f_is_number)
  f_tuples_of : Addr
  d_tuples_of : FuncData
  w_tuples_of : Fun K "tuples_of" "tuples_of" s_tuples_of f_tuples_of d_tuples_of
  b_tuples_of : Binds K d_tuples_of ["many", "count"] []
  g_tuples_of : mg "tuples_of" = some (.ref f_tuples_of)
  f_keys_of : Addr
  d_keys_of : FuncData
  w_keys_of : Fun K "keys_of" "keys_of" s_keys_of f_keys_of d_keys_of
  b_keys_of : Binds K d_keys_of ["kind", "many"] []
  g_keys_of : mg "keys_of" = some (.ref f_keys_of)
  f_are_truths : Addr
  d_are_truths : FuncData
  w_are_truths : Fun K "are_truths" "are_truths" s_are_truths f_are_truths d_are_truths
  b_are_truths : Binds K d_are_truths ["value"] []
  g_are_truths : mg "are_truths" = some (.ref f_are_truths)
  f_is_row : Addr
  d_is_row : FuncData
  w_is_row : Fun K "is_row" "is_row" s_is_row f_is_row d_is_row
  b_is_row : Binds K d_is_row ["row", "key", "many"] []
  g_is_row : mg "is_row" = some (.ref f_is_row)
  f_is_judge : Addr
  d_is_judge : FuncData
  w_is_judge : Fun K "is_judge" "is_judge" s_is_judge f_is_judge d_is_judge
  b_is_judge : Binds K d_is_judge ["kind", "value"] []
  g_is_judge : mg "is_judge" = some (.ref f_is_judge)
  f__law_deck : Addr
  d__law_deck : FuncData
  w__law_deck : Fun K "_law_deck" "_law_deck" s__law_deck f__law_deck d__law_deck
  b__law_deck : Binds K d__law_deck ["_law_script"] []
  g__law_deck : mg "_law_deck" = some (.ref f__law_deck)
  f__law_draw : Addr
  d__law_draw : FuncData
  w__law_draw : Fun K "_law_draw" "_law_draw" s__law_draw f__law_draw d__law_draw
  b__law_draw : Binds K d__law_draw ["_law_deck_here", "_law_many"] []
  g__law_draw : mg "_law_draw" = some (.ref f__law_draw)
  f__law_one : Addr
  d__law_one : FuncData
  w__law_one : Fun K "_law_one" "_law_one" s__law_one f__law_one d__law_one
  b__law_one : Binds K d__law_one ["_law_deck_here", "_law_items"] []
  g__law_one : mg "_law_one" = some (.ref f__law_one)
  f__law_signs : Addr
  d__law_signs : FuncData
  w__law_signs : Fun K "_law_signs" "_law_signs" s__law_signs f__law_signs d__law_signs
  b__law_signs : Binds K d__law_signs ["_law_deck_here", "_law_many"] []
  g__law_signs : mg "_law_signs" = some (.ref f__law_signs)
  f__law_kind : Addr
  d__law_kind : FuncData
  w__law_kind : Fun K "_law_kind" "_law_kind" s__law_kind f__law_kind d__law_kind
  b__law_kind : Binds K d__law_kind ["_law_deck_here", "_law_signs_here", "_law_most"] []
  g__law_kind : mg "_law_kind" = some (.ref f__law_kind)
  f__law_tuples : Addr
  d__law_tuples : FuncData
  w__law_tuples : Fun K "_law_tuples" "_law_tuples" s__law_tuples f__law_tuples d__law_tuples
  b__law_tuples : Binds K d__law_tuples ["_law_many", "_law_count"] []
  g__law_tuples : mg "_law_tuples" = some (.ref f__law_tuples)
  f__law_judge : Addr
  d__law_judge : FuncData
  w__law_judge : Fun K "_law_judge" "_law_judge" s__law_judge f__law_judge d__law_judge
  b__law_judge : Binds K d__law_judge ["_law_deck_here", "_law_kind_here", "_law_many"] []
  g__law_judge : mg "_law_judge" = some (.ref f__law_judge)
  f__law_whole : Addr
  d__law_whole : FuncData
  w__law_whole : Fun K "_law_whole" "_law_whole" s__law_whole f__law_whole d__law_whole
  b__law_whole : Binds K d__law_whole ["_law_value", "_law_most"] []
  g__law_whole : mg "_law_whole" = some (.ref f__law_whole)
  f__law_is_judge : Addr
  d__law_is_judge : FuncData
  w__law_is_judge : Fun K "_law_is_judge" "_law_is_judge" s__law_is_judge f__law_is_judge d__law_is_judge
  b__law_is_judge : Binds K d__law_is_judge ["_law_kind_here", "_law_value"] []
  g__law_is_judge : mg "_law_is_judge" = some (.ref f__law_is_judge)
  f__law_odd : Addr
  d__law_odd : FuncData
  w__law_odd : Fun K "_law_odd" "_law_odd" s__law_odd f__law_odd d__law_odd
  b__law_odd : Binds K d__law_odd ["_law_deck_here"] []
  g__law_odd : mg "_law_odd" = some (.ref f__law_odd)
  f__law_bent : Addr
  d__law_bent : FuncData
  w__law_bent : Fun K "_law_bent" "_law_bent" s__law_bent f__law_bent d__law_bent
  b__law_bent : Binds K d__law_bent ["_law_deck_here", "_law_value", "_law_depth"] []
  g__law_bent : mg "_law_bent" = some (.ref f__law_bent)
  f_law : Addr
  d_law : FuncData
  w_law : Fun K "law" "law" s_law f_law d_law
  b_law : Binds K d_law ["_law_script"] []
  g_law : mg "law" = some (.ref f_law)
  z_abs : mg "abs" = none
  z_all : mg "all" = none
  z_bool : mg "bool" = none
  z_int : mg "int" = none
  z_isinstance : mg "isinstance" = none
  z_len : mg "len" = none
  z_list : mg "list" = none
  z_range : mg "range" = none
  z_repr : mg "repr" = none
  z_set : mg "set" = none
  z_sorted : mg "sorted" = none
  z_str : mg "str" = none
  z_sum : mg "sum" = none
  z_tuple : mg "tuple" = none
  z_zip : mg "zip" = none
  t_MAX_ANSWERS : Tok
  c_MAX_ANSWERS : mg "MAX_ANSWERS" = some (.int 80 t_MAX_ANSWERS)
section
variable {P : Program} {w : World} {K : PySem.W.Frag} {mg : Str → Option Value} {base : Heap}
theorem sc_is_number : FnScope N_is_number ["value", "least", "most"] (defScope s_is_number) := ⟨rfl, rfl, rfl, by decide +kernel, rfl, by decide +kernel, by decide +kernel⟩
theorem sc_tuples_of : FnScope N_tuples_of ["many", "count"] (defScope s_tuples_of) := ⟨rfl, rfl, rfl, by decide +kernel, rfl, by decide +kernel, by decide +kernel⟩
theorem sc_keys_of : FnScope N_keys_of ["kind", "many"] (defScope s_keys_of) := ⟨rfl, rfl, rfl, by decide +kernel, rfl, by decide +kernel, by decide +kernel⟩
theorem sc_are_truths : FnScope N_are_truths ["value"] (defScope s_are_truths) := ⟨rfl, rfl, rfl, by decide +kernel, rfl, by decide +kernel, by decide +kernel⟩
theorem sc_is_row : FnScope N_is_row ["row", "key", "many"] (defScope s_is_row) := ⟨rfl, rfl, rfl, by decide +kernel, rfl, by decide +kernel, by decide +kernel⟩
theorem sc_is_judge : FnScope N_is_judge ["kind", "value"] (defScope s_is_judge) := ⟨rfl, rfl, rfl, by decide +kernel, rfl, by decide +kernel, by decide +kernel⟩
theorem sc__law_deck : FnScope N__law_deck ["_law_script"] (defScope s__law_deck) := ⟨rfl, rfl, rfl, by decide +kernel, rfl, by decide +kernel, by decide +kernel⟩
theorem sc__law_draw : FnScope N__law_draw ["_law_deck_here", "_law_many"] (defScope s__law_draw) := ⟨rfl, rfl, rfl, by decide +kernel, rfl, by decide +kernel, by decide +kernel⟩
theorem sc__law_one : FnScope N__law_one ["_law_deck_here", "_law_items"] (defScope s__law_one) := ⟨rfl, rfl, rfl, by decide +kernel, rfl, by decide +kernel, by decide +kernel⟩
theorem sc__law_signs : FnScope N__law_signs ["_law_deck_here", "_law_many"] (defScope s__law_signs) := ⟨rfl, rfl, rfl, by decide +kernel, rfl, by decide +kernel, by decide +kernel⟩
theorem sc__law_kind : FnScope N__law_kind ["_law_deck_here", "_law_signs_here", "_law_most"] (defScope s__law_kind) := ⟨rfl, rfl, rfl, by decide +kernel, rfl, by decide +kernel, by decide +kernel⟩
theorem sc__law_tuples : FnScope N__law_tuples ["_law_many", "_law_count"] (defScope s__law_tuples) := ⟨rfl, rfl, rfl, by decide +kernel, rfl, by decide +kernel, by decide +kernel⟩
theorem sc__law_judge : FnScope N__law_judge ["_law_deck_here", "_law_kind_here", "_law_many"] (defScope s__law_judge) := ⟨rfl, rfl, rfl, by decide +kernel, rfl, by decide +kernel, by decide +kernel⟩
theorem sc__law_whole : FnScope N__law_whole ["_law_value", "_law_most"] (defScope s__law_whole) := ⟨rfl, rfl, rfl, by decide +kernel, rfl, by decide +kernel, by decide +kernel⟩
theorem sc__law_is_judge : FnScope N__law_is_judge ["_law_kind_here", "_law_value"] (defScope s__law_is_judge) := ⟨rfl, rfl, rfl, by decide +kernel, rfl, by decide +kernel, by decide +kernel⟩
theorem sc__law_odd : FnScope N__law_odd ["_law_deck_here"] (defScope s__law_odd) := ⟨rfl, rfl, rfl, by decide +kernel, rfl, by decide +kernel, by decide +kernel⟩
theorem sc__law_bent : FnScope N__law_bent ["_law_deck_here", "_law_value", "_law_depth"] (defScope s__law_bent) := ⟨rfl, rfl, rfl, by decide +kernel, rfl, by decide +kernel, by decide +kernel⟩
theorem sc_law : FnScope N_law ["_law_script"] (defScope s_law) := ⟨rfl, rfl, rfl, by decide +kernel, rfl, by decide +kernel, by decide +kernel⟩
theorem ok_is_number (e : At K mg) : FnG P w K mg base 1 e.f_is_number e.d_is_number ["value", "least", "most"] (spOf ⟨w, K, mg⟩ 3 F_is_number) :=
  def_ok (k := 0) (n := 3) (N := N_is_number) (m := m_is_number) (O' := []) e.w_is_number sc_is_number rfl fun cdv A outer s H E c =>
    (css_one (cs_ret (ce_and (ce_isi isa_int e.z_isinstance e.z_int bt_int (cv_of (ce_var 0))) (ce_and (ce_not (ce_isi isa_bool e.z_isinstance e.z_bool bt_bool (cv_of (ce_var 0)))) (ce_one (ce_chain op_leR op_leR p_le p_le (cv_of (ce_var 1)) (cv_of (ce_var 0)) (cv_of (ce_var 2))))))))
theorem ok_tuples_of (e : At K mg) : FnG P w K mg base 1 e.f_tuples_of e.d_tuples_of ["many", "count"] (spOf ⟨w, K, mg⟩ 2 F_tuples_of) :=
  def_ok (k := 0) (n := 2) (N := N_tuples_of) (m := m_tuples_of) (O' := []) e.w_tuples_of sc_tuples_of rfl fun cdv A outer s H E c =>
    (css_cons (O1 := [false, false, false, false, false, false])
    (cs_set 2 sc_tuples_of.nd (ce_lst (ca_cons (ce_tup ca_nil) ca_nil)))
    (css_cons (O1 := [false, false, false, false, false, false])
    (cs_for (O1 := [false, false, false, false, false, false]) c.ps rfl (ci_range1 rfl e.z_range (ca_cons (ce_var 1) ca_nil)) (cg_name 3 sc_tuples_of.nd)
    (css_one (cs_lcSet2 2 rfl sc_tuples_of.nd (sw_true rfl rfl rfl (by decide +kernel)) (own := [("row", 4), ("number", 5)]) (vs1 := [5]) (cis_any (cv_of (ce_var 2))) (blkOk_by (N := N_tuples_of) (sc := (defScope s_tuples_of)) (by decide +kernel)) (fun _ _ _ _ _ => (cg_name 4 sc_tuples_of.nd)) (fun _ _ _ _ _ => cts_nil) (fun _ _ _ _ _ => (ci_range1 rfl e.z_range (ca_cons (ce_var 0) ca_nil))) (fun _ _ _ _ _ => (cg_name 5 sc_tuples_of.nd)) (fun _ _ _ _ _ => cts_nil) (fun _ _ _ _ _ => (ce_op op_addR p_add (cv_of (ce_var 4)) (cv_of (ce_tup (ca_cons (ce_var 5) ca_nil))))))))
    (css_one (cs_ret (ce_var 2)))))
theorem ok_keys_of (e : At K mg) : FnG P w K mg base 2 e.f_keys_of e.d_keys_of ["kind", "many"] (spOf ⟨w, K, mg⟩ 2 F_keys_of) :=
  def_ok (k := 1) (n := 2) (N := N_keys_of) (m := m_keys_of) (O' := []) e.w_keys_of sc_keys_of rfl fun cdv A outer s H E c =>
    (css_cons (O1 := [false, false, true, false, false, false])
    (cs_own 2 sc_keys_of.nd (cn_lst ca_nil))
    (css_cons (O1 := [false, false, true, false, false, false])
    (cs_for (O1 := [false, false, true, false, false, false]) c.ps rfl (ci_any (ce_var 0)) (cg_tup rfl (cgs_cons (cg_name 3 sc_keys_of.nd) (cgs_cons (cg_name 4 sc_keys_of.nd) cgs_nil)))
    (css_one (cs_ext 2 rfl (ps_expr (pe_bm F.plainAttrs_list F.slot_list_extend F.type_list_extend mt_extend (pv 2) (pa_cons (ce_of_cn (cn_lc rfl sc_keys_of.nd (own := [("classes", 5)]) (cis_any (cv_of (ce_call ((ok_tuples_of e).mono (by decide)) c.hr c.hs rfl e.g_tuples_of e.w_tuples_of.kp e.b_tuples_of c.tk (ca_cons (ce_var 1) (ca_cons (ce_var 4) ca_nil))))) (blkOk_by (N := N_keys_of) (sc := (defScope s_keys_of)) (by decide +kernel)) (fun _ _ _ _ _ => (cg_name 5 sc_keys_of.nd)) (fun _ _ _ _ _ => cts_nil) (fun _ _ _ _ _ => (ce_tup (ca_cons (ce_var 3) (ca_cons (ce_var 5) ca_nil)))))) pa_nil))))))
    (css_one (cs_ret (ce_of_cn (cn_sort c.hr e.z_sorted (cv_own 2)))))))
theorem ok_are_truths (e : At K mg) : FnG P w K mg base 1 e.f_are_truths e.d_are_truths ["value"] (spOf ⟨w, K, mg⟩ 1 F_are_truths) :=
  def_ok (k := 0) (n := 1) (N := N_are_truths) (m := m_are_truths) (O' := []) e.w_are_truths sc_are_truths rfl fun cdv A outer s H E c =>
    (css_cons (O1 := [false, false])
    (cs_if (O' := [false, false]) (ct_w (cw_or (ct_not (ct_truth (cv_of (ce_isi isa_tuple e.z_isinstance e.z_tuple bt_tuple (cv_of (ce_var 0)))))) (cw_or1 (ct_not (ct_chain op_leR op_leR p_le p_le (cv_of ce_int) (cv_of (ce_len e.z_len (cv_of (ce_var 0)))) (cv_of (ce_glob (v := .int 80) rfl e.c_MAX_ANSWERS ⟨_, rfl⟩ (fun _ _ => .int _)))))))) (css_one (cs_ret ce_bl)) css_nil)
    (css_one (cs_ret (ce_all rfl e.z_all (cv_of (ce_of_cn (cn_lc rfl sc_are_truths.nd (own := [("truth", 1)]) (cis_any (cv_of (ce_var 0))) (blkOk_by (N := N_are_truths) (sc := (defScope s_are_truths)) (by decide +kernel)) (fun _ _ _ _ _ => (cg_name 1 sc_are_truths.nd)) (fun _ _ _ _ _ => cts_nil) (fun _ _ _ _ _ => (ce_isi isa_bool e.z_isinstance e.z_bool bt_bool (cv_of (ce_var 1)))))))))))
theorem ok_is_row (e : At K mg) : FnG P w K mg base 2 e.f_is_row e.d_is_row ["row", "key", "many"] (spOf ⟨w, K, mg⟩ 3 F_is_row) :=
  def_ok (k := 1) (n := 3) (N := N_is_row) (m := m_is_row) (O' := []) e.w_is_row sc_is_row rfl fun cdv A outer s H E c =>
    (css_cons (O1 := [false, false, false, false])
    (cs_if (O' := [false, false, false, false]) (ct_w (cw_or (ct_not (ct_truth (cv_of (ce_isi isa_tuple e.z_isinstance e.z_tuple bt_tuple (cv_of (ce_var 0)))))) (cw_or (ct_cmp (op_neR c.hr) p_eq (cv_of (ce_len e.z_len (cv_of (ce_var 0)))) (cv_of ce_int) (nomark _)) (cw_or (ct_not (ct_truth (cv_of (ce_isi isa_str e.z_isinstance e.z_str bt_str (cv_of (ce_ix ix_seq p_ix (cv_of (ce_var 0)) (cv_of ce_int) (fun _ _ => rfl))))))) (cw_or1 (ct_not (ct_truth (cv_of (ce_isi isa_tuple e.z_isinstance e.z_tuple bt_tuple (cv_of (ce_ix ix_seq p_ix (cv_of (ce_var 0)) (cv_of ce_int) (fun _ _ => rfl)))))))))))) (css_one (cs_ret ce_bl)) css_nil)
    (css_cons (O1 := [false, false, false, false])
    (cs_if (O' := [false, false, false, false]) (ct_not (ct_truth (cv_of (ce_all rfl e.z_all (cv_of (ce_of_cn (cn_lc rfl sc_is_row.nd (own := [("number", 3)]) (cis_any (cv_of (ce_op op_addR p_add (cv_of (ce_ix ix_seq p_ix (cv_of (ce_var 0)) (cv_of ce_int) (fun _ _ => rfl))) (cv_of (ce_slice (cv_of (ce_var 0)) (co_some ce_int) co_none))))) (blkOk_by (N := N_is_row) (sc := (defScope s_is_row)) (by decide +kernel)) (fun _ _ _ _ _ => (cg_name 3 sc_is_row.nd)) (fun _ _ _ _ _ => cts_nil) (fun _ _ _ _ _ => (ce_call ((ok_is_number e).mono (by decide)) c.hr c.hs rfl e.g_is_number e.w_is_number.kp e.b_is_number lets_no (ca_cons (ce_var 3) (ca_cons ce_int (ca_cons (ce_op op_sub p_sub (cv_of (ce_var 2)) (cv_of ce_int)) ca_nil)))))))))))) (css_one (cs_ret ce_bl)) css_nil)
    (css_one (cs_ret (ce_cmp (op_eqR c.hr) p_eq (cv_of (ce_slice (cv_of (ce_var 0)) co_none (co_some ce_int))) (cv_of (ce_var 1)) (nomark _))))))
theorem ok_is_judge (e : At K mg) : FnG P w K mg base 3 e.f_is_judge e.d_is_judge ["kind", "value"] (spOf ⟨w, K, mg⟩ 2 F_is_judge) :=
  def_ok (k := 2) (n := 2) (N := N_is_judge) (m := m_is_judge) (O' := []) e.w_is_judge sc_is_judge rfl fun cdv A outer s H E c =>
    (css_cons (O1 := [false, false, false, false, false, false, false])
    (cs_if (O' := [false, false, false, false, false, false, false]) (ct_w (cw_or (ct_not (ct_truth (cv_of (ce_isi isa_tuple e.z_isinstance e.z_tuple bt_tuple (cv_of (ce_var 1)))))) (cw_or (ct_cmp (op_neR c.hr) p_eq (cv_of (ce_len e.z_len (cv_of (ce_var 1)))) (cv_of ce_int) (nomark _)) (cw_or (ct_not (ct_truth (cv_of (ce_call ((ok_are_truths e).mono (by decide)) c.hr c.hs rfl e.g_are_truths e.w_are_truths.kp e.b_are_truths c.tk (ca_cons (ce_ix ix_seq p_ix (cv_of (ce_var 1)) (cv_of ce_int) (fun _ _ => rfl)) ca_nil))))) (cw_or1 (ct_not (ct_truth (cv_of (ce_isi isa_tuple e.z_isinstance e.z_tuple bt_tuple (cv_of (ce_ix ix_seq p_ix (cv_of (ce_var 1)) (cv_of ce_int) (fun _ _ => rfl)))))))))))) (css_one (cs_ret ce_bl)) css_nil)
    (css_cons (O1 := [false, false, false, false, false, false, false])
    (cs_set 2 sc_is_judge.nd (ce_len e.z_len (cv_of (ce_ix ix_seq p_ix (cv_of (ce_var 1)) (cv_of ce_int) (fun _ _ => rfl)))))
    (css_cons (O1 := [false, false, false, false, false, false, false])
    (cs_if (O' := [false, false, false, false, false, false, false]) (ct_cmp (op_neR c.hr) p_eq (cv_of (ce_len e.z_len (cv_of (ce_ix ix_seq p_ix (cv_of (ce_var 1)) (cv_of ce_int) (fun _ _ => rfl))))) (cv_of (ce_sum rfl e.z_sum (cv_of (ce_of_cn (cn_lc rfl sc_is_judge.nd (own := [("sign", 3), ("count", 4)]) (cis_any (cv_of (ce_var 0))) (blkOk_by (N := N_is_judge) (sc := (defScope s_is_judge)) (by decide +kernel)) (fun _ _ _ _ _ => (cg_tup rfl (cgs_cons (cg_name 3 sc_is_judge.nd) (cgs_cons (cg_name 4 sc_is_judge.nd) cgs_nil)))) (fun _ _ _ _ _ => cts_nil) (fun _ _ _ _ _ => (ce_ix ix_seq p_ix (cv_of (ce_lst (ca_cons ce_int (ca_cons (ce_var 2) (ca_cons (ce_op op_mulR p_mul (cv_of (ce_var 2)) (cv_of (ce_var 2))) ca_nil))))) (cv_of (ce_var 4)) (fun _ _ => rfl)))))))) (nomark _)) (css_one (cs_ret ce_bl)) css_nil)
    (css_one (cs_ret (ce_all rfl e.z_all (cv_of (ce_of_cn (cn_lc rfl sc_is_judge.nd (own := [("row", 5), ("key", 6)]) (cis_of (ci_zip rfl e.z_zip (ca_cons (ce_ix ix_seq p_ix (cv_of (ce_var 1)) (cv_of ce_int) (fun _ _ => rfl)) (ca_cons (ce_call ((ok_keys_of e).mono (by decide)) c.hr c.hs rfl e.g_keys_of e.w_keys_of.kp e.b_keys_of c.tk (ca_cons (ce_var 0) (ca_cons (ce_var 2) ca_nil))) ca_nil)))) (blkOk_by (N := N_is_judge) (sc := (defScope s_is_judge)) (by decide +kernel)) (fun _ _ _ _ _ => (cg_tup rfl (cgs_cons (cg_name 5 sc_is_judge.nd) (cgs_cons (cg_name 6 sc_is_judge.nd) cgs_nil)))) (fun _ _ _ _ _ => cts_nil) (fun _ _ _ _ _ => (ce_call ((ok_is_row e).mono (by decide)) c.hr c.hs rfl e.g_is_row e.w_is_row.kp e.b_is_row lets_no (ca_cons (ce_var 5) (ca_cons (ce_var 6) (ca_cons (ce_var 2) ca_nil))))))))))))))
theorem ok__law_deck (e : At K mg) : FnG P w K mg base 1 e.f__law_deck e.d__law_deck ["_law_script"] (spOf ⟨w, K, mg⟩ 1 F__law_deck) :=
  def_ok (k := 0) (n := 1) (N := N__law_deck) (m := m__law_deck) (O' := []) e.w__law_deck sc__law_deck rfl fun cdv A outer s H E c =>
    (css_one (cs_ret (ce_obj (ca_cons (ce_new (cn_lc rfl sc__law_deck.nd (own := [("_law_cell", 1)]) (cis_any (cv_of (ce_slice (cv_of (ce_var 0)) co_none (co_some ce_int)))) (blkOk_by (N := N__law_deck) (sc := (defScope s__law_deck)) (by decide +kernel)) (fun _ _ _ _ _ => (cg_name 1 sc__law_deck.nd)) (fun _ _ _ _ _ => cts_nil) (fun _ _ _ _ _ => (ce_abs e.z_abs (cv_of (ce_var 1)))))) (ca_cons ce_int ca_nil)))))
theorem ok__law_draw (e : At K mg) : FnG P w K mg base 1 e.f__law_draw e.d__law_draw ["_law_deck_here", "_law_many"] (spOf ⟨w, K, mg⟩ 2 F__law_draw) :=
  def_ok (k := 0) (n := 2) (N := N__law_draw) (m := m__law_draw) (O' := []) e.w__law_draw sc__law_draw rfl fun cdv A outer s H E c =>
    (css_cons (O1 := [false, false, false, false, false])
    (cs_putO (ps_asg (ce_op op_addR p_add (cv_of (ce_ix ix_seq p_ix (cv_of (ce_var 0)) (cv_of ce_int) (fun _ _ => rfl))) (cv_of ce_int)) (pg_sub (ce_var 0) ce_int set_list)))
    (css_cons (O1 := [false, false, false, false, false])
    (cs_asg (cf_of (ce_tup (ca_cons ce_int (ca_cons (ce_un un_neg p_neg (cv_of ce_int)) ca_nil)))) (cg_tup rfl (cgs_cons (cg_name 2 sc__law_draw.nd) (cgs_cons (cg_name 3 sc__law_draw.nd) cgs_nil))))
    (css_cons (O1 := [false, false, false, false, false])
    (cs_if (O' := [false, false, false, false, false]) (ct_cmp op_gtR p_gt (cv_of (ce_len e.z_len (cv_of (ce_ix ix_seq p_ix (cv_of (ce_var 0)) (cv_of ce_int) (fun _ _ => rfl))))) (cv_of ce_int) (nomark _)) (css_cons (O1 := [false, false, false, false, false])
    (cs_set 3 sc__law_draw.nd (ce_op op_mod p_mod (cv_of (ce_toint e.z_int (cv_of (ce_ix ix_seq p_ix (cv_of (ce_var 0)) (cv_of ce_int) (fun _ _ => rfl))))) (cv_of (ce_len e.z_len (cv_of (ce_ix ix_seq p_ix (cv_of (ce_var 0)) (cv_of ce_int) (fun _ _ => rfl)))))))
    (css_one (cs_set 2 sc__law_draw.nd (ce_ix ix_seq p_ix (cv_of (ce_ix ix_seq p_ix (cv_of (ce_var 0)) (cv_of ce_int) (fun _ _ => rfl))) (cv_of (ce_var 3)) (fun _ _ => rfl))))) css_nil)
    (css_cons (O1 := [false, false, false, false, false])
    (cs_if (O' := [false, false, false, false, false]) (ct_cmp op_geR p_ge (cv_of (ce_var 2)) (cv_of (ce_op op_pow p_pow (cv_of ce_int) (cv_of ce_int))) (nomark _)) (css_cons (O1 := [false, false, false, false, false])
    (cs_putO (ps_asg (ce_op op_fdiv p_div (cv_of (ce_toint e.z_int (cv_of (ce_var 2)))) (cv_of (ce_var 1))) (pg_sub (ce_ix ix_seq p_ix (cv_of (ce_var 0)) (cv_of ce_int) (fun _ _ => rfl)) (ce_var 3) set_list)))
    (css_one (cs_ret (ce_op op_mod p_mod (cv_of (ce_toint e.z_int (cv_of (ce_var 2)))) (cv_of (ce_var 1)))))) css_nil)
    (css_cons (O1 := [false, false, false, false, false])
    (cs_set 4 sc__law_draw.nd (ce_op op_addR p_add (cv_of (ce_op op_addR p_add (cv_of (ce_op op_mod p_mod (cv_of (ce_toint e.z_int (cv_of (ce_var 2)))) (cv_of ce_int))) (cv_of (ce_op op_mulR p_mul (cv_of ce_int) (cv_of (ce_ix ix_seq p_ix (cv_of (ce_var 0)) (cv_of ce_int) (fun _ _ => rfl))))))) (cv_of ce_int)))
    (css_one (cs_ret (ce_op op_mod p_mod (cv_of (ce_toint e.z_int (cv_of (ce_op op_mod p_mod (cv_of (ce_toint e.z_int (cv_of (ce_op op_pow p_pow (cv_of (ce_var 4)) (cv_of ce_int))))) (cv_of ce_int))))) (cv_of (ce_var 1))))))))))
theorem ok__law_one (e : At K mg) : FnG P w K mg base 2 e.f__law_one e.d__law_one ["_law_deck_here", "_law_items"] (spOf ⟨w, K, mg⟩ 2 F__law_one) :=
  def_ok (k := 1) (n := 2) (N := N__law_one) (m := m__law_one) (O' := []) e.w__law_one sc__law_one rfl fun cdv A outer s H E c =>
    (css_one (cs_ret (ce_ix ix_seq p_ix (cv_of (ce_var 1)) (cv_of (ce_call ((ok__law_draw e).mono (by decide)) c.hr c.hs rfl e.g__law_draw e.w__law_draw.kp e.b__law_draw c.tk (ca_cons (ce_var 0) (ca_cons (ce_len e.z_len (cv_of (ce_var 1))) ca_nil)))) (fun _ _ => rfl))))
theorem ok__law_signs (e : At K mg) : FnG P w K mg base 3 e.f__law_signs e.d__law_signs ["_law_deck_here", "_law_many"] (spOf ⟨w, K, mg⟩ 2 F__law_signs) :=
  def_ok (k := 2) (n := 2) (N := N__law_signs) (m := m__law_signs) (O' := []) e.w__law_signs sc__law_signs rfl fun cdv A outer s H E c =>
    (css_cons (O1 := [false, false, false, false, false, false])
    (cs_set 2 sc__law_signs.nd ce_str)
    (css_cons (O1 := [false, false, false, false, false, false])
    (cs_set 3 sc__law_signs.nd (ce_join (cv_of ce_str) (cv_of (ce_of_cn (cn_lc rfl sc__law_signs.nd (own := [("_law_k", 5)]) (cis_of (ci_range1 rfl e.z_range (ca_cons (ce_call ((ok__law_draw e).mono (by decide)) c.hr c.hs rfl e.g__law_draw e.w__law_draw.kp e.b__law_draw c.tk (ca_cons (ce_var 0) (ca_cons ce_int ca_nil))) ca_nil))) (blkOk_by (N := N__law_signs) (sc := (defScope s__law_signs)) (by decide +kernel)) (fun _ _ _ _ _ => (cg_name 5 sc__law_signs.nd)) (fun _ _ _ _ _ => cts_nil) (fun _ _ _ _ _ => (ce_call ((ok__law_one e).mono (by decide)) c.hr c.hs rfl e.g__law_one e.w__law_one.kp e.b__law_one lets_no (ca_cons (ce_var 0) (ca_cons (ce_var 2) ca_nil)))))))))
    (css_cons (O1 := [false, false, false, false, false, false])
    (cs_set 4 sc__law_signs.nd (ce_join (cv_of ce_str) (cv_of (ce_of_cn (cn_lc rfl sc__law_signs.nd (own := [("_law_k", 5)]) (cis_of (ci_range1 rfl e.z_range (ca_cons (ce_call ((ok__law_draw e).mono (by decide)) c.hr c.hs rfl e.g__law_draw e.w__law_draw.kp e.b__law_draw c.tk (ca_cons (ce_var 0) (ca_cons ce_int ca_nil))) ca_nil))) (blkOk_by (N := N__law_signs) (sc := (defScope s__law_signs)) (by decide +kernel)) (fun _ _ _ _ _ => (cg_name 5 sc__law_signs.nd)) (fun _ _ _ _ _ => cts_nil) (fun _ _ _ _ _ => (ce_call ((ok__law_one e).mono (by decide)) c.hr c.hs rfl e.g__law_one e.w__law_one.kp e.b__law_one lets_no (ca_cons (ce_var 0) (ca_cons (ce_var 2) ca_nil)))))))))
    (css_one (cs_ret (ce_of_cn (cn_lc rfl sc__law_signs.nd (own := [("_law_k", 5)]) (cis_of (ci_range1 rfl e.z_range (ca_cons (ce_var 1) ca_nil))) (blkOk_by (N := N__law_signs) (sc := (defScope s__law_signs)) (by decide +kernel)) (fun _ _ _ _ _ => (cg_name 5 sc__law_signs.nd)) (fun _ _ _ _ _ => cts_nil) (fun _ _ _ _ _ => (ce_op op_addR p_add (cv_of (ce_op op_addR p_add (cv_of (ce_var 3)) (cv_of (ce_ix ix_seq p_ix (cv_of ce_str) (cv_of (ce_var 5)) (fun _ _ => rfl))))) (cv_of (ce_var 4)))))))))))
theorem ok__law_kind (e : At K mg) : FnG P w K mg base 3 e.f__law_kind e.d__law_kind ["_law_deck_here", "_law_signs_here", "_law_most"] (spOf ⟨w, K, mg⟩ 3 F__law_kind) :=
  def_ok (k := 2) (n := 3) (N := N__law_kind) (m := m__law_kind) (O' := []) e.w__law_kind sc__law_kind rfl fun cdv A outer s H E c =>
    (css_cons (O1 := [false, false, false, true, false])
    (cs_own 3 sc__law_kind.nd (cn_lst (ca_cons (ce_tup (ca_cons (ce_call ((ok__law_one e).mono (by decide)) c.hr c.hs rfl e.g__law_one e.w__law_one.kp e.b__law_one c.tk (ca_cons (ce_var 0) (ca_cons (ce_var 1) ca_nil))) (ca_cons ce_int ca_nil))) ca_nil)))
    (css_cons (O1 := [false, false, false, true, false])
    (cs_for (O1 := [false, false, false, true, false]) c.ps rfl (ci_range1 rfl e.z_range (ca_cons (ce_op op_addR p_add (cv_of ce_int) (cv_of (ce_call ((ok__law_draw e).mono (by decide)) c.hr c.hs rfl e.g__law_draw e.w__law_draw.kp e.b__law_draw c.tk (ca_cons (ce_var 0) (ca_cons (ce_var 2) ca_nil))))) ca_nil)) (cg_name 4 sc__law_kind.nd)
    (css_one (cs_app 3 rfl (ps_expr (pe_bm F.plainAttrs_list F.slot_list_append F.type_list_append mt_append (pv 3) (pa_cons (ce_tup (ca_cons (ce_call ((ok__law_one e).mono (by decide)) c.hr c.hs rfl e.g__law_one e.w__law_one.kp e.b__law_one c.tk (ca_cons (ce_var 0) (ca_cons (ce_var 1) ca_nil))) (ca_cons (ce_call ((ok__law_draw e).mono (by decide)) c.hr c.hs rfl e.g__law_draw e.w__law_draw.kp e.b__law_draw c.tk (ca_cons (ce_var 0) (ca_cons ce_int ca_nil))) ca_nil))) pa_nil))))))
    (css_one (cs_ret (ce_totup e.z_tuple (cv_of (ce_of_cn (cn_sortset rfl c.hr e.z_sorted e.z_set (cv_own 3)))))))))
theorem ok__law_tuples (e : At K mg) : FnG P w K mg base 1 e.f__law_tuples e.d__law_tuples ["_law_many", "_law_count"] (spOf ⟨w, K, mg⟩ 2 F__law_tuples) :=
  def_ok (k := 0) (n := 2) (N := N__law_tuples) (m := m__law_tuples) (O' := []) e.w__law_tuples sc__law_tuples rfl fun cdv A outer s H E c =>
    (css_cons (O1 := [false, false, false, false, false, false, false])
    (cs_set 2 sc__law_tuples.nd (ce_lst (ca_cons (ce_tup ca_nil) ca_nil)))
    (css_cons (O1 := [false, false, false, false, false, false, false])
    (cs_for (O1 := [false, false, false, false, false, false, false]) c.ps rfl (ci_range1 rfl e.z_range (ca_cons (ce_var 1) ca_nil)) (cg_name 3 sc__law_tuples.nd)
    (css_cons (O1 := [false, false, false, false, true, false, false])
    (cs_own 4 sc__law_tuples.nd (cn_lst ca_nil))
    (css_cons (O1 := [false, false, false, false, true, false, false])
    (cs_for (O1 := [false, false, false, false, true, false, false]) c.ps rfl (ci_any (ce_var 2)) (cg_name 5 sc__law_tuples.nd)
    (css_one (cs_ext 4 rfl (ps_expr (pe_bm F.plainAttrs_list F.slot_list_extend F.type_list_extend mt_extend (pv 4) (pa_cons (ce_of_cn (cn_lc rfl sc__law_tuples.nd (own := [("_law_number", 6)]) (cis_of (ci_range1 rfl e.z_range (ca_cons (ce_var 0) ca_nil))) (blkOk_by (N := N__law_tuples) (sc := (defScope s__law_tuples)) (by decide +kernel)) (fun _ _ _ _ _ => (cg_name 6 sc__law_tuples.nd)) (fun _ _ _ _ _ => cts_nil) (fun _ _ _ _ _ => (ce_op op_addR p_add (cv_of (ce_var 5)) (cv_of (ce_tup (ca_cons (ce_var 6) ca_nil))))))) pa_nil))))))
    (css_let [false, false, false, false, false, false, false] (css_one (cs_set 2 sc__law_tuples.nd (ce_var 4)))))))
    (css_one (cs_ret (ce_var 2)))))
theorem ok__law_judge (e : At K mg) : FnG P w K mg base 2 e.f__law_judge e.d__law_judge ["_law_deck_here", "_law_kind_here", "_law_many"] (spOf ⟨w, K, mg⟩ 3 F__law_judge) :=
  def_ok (k := 1) (n := 3) (N := N__law_judge) (m := m__law_judge) (O' := []) e.w__law_judge sc__law_judge rfl fun cdv A outer s H E c =>
    (css_cons (O1 := [false, false, false, true, false, false, false, false])
    (cs_own 3 sc__law_judge.nd (cn_lst ca_nil))
    (css_cons (O1 := [false, false, false, true, false, false, false, false])
    (cs_for (O1 := [false, false, false, true, false, false, false, false]) c.ps rfl (ci_any (ce_var 1)) (cg_tup rfl (cgs_cons (cg_name 4 sc__law_judge.nd) (cgs_cons (cg_name 5 sc__law_judge.nd) cgs_nil)))
    (css_one (cs_ext 3 rfl (ps_expr (pe_bm F.plainAttrs_list F.slot_list_extend F.type_list_extend mt_extend (pv 3) (pa_cons (ce_of_cn (cn_lc rfl sc__law_judge.nd (own := [("_law_classes", 6)]) (cis_any (cv_of (ce_call ((ok__law_tuples e).mono (by decide)) c.hr c.hs rfl e.g__law_tuples e.w__law_tuples.kp e.b__law_tuples c.tk (ca_cons (ce_var 2) (ca_cons (ce_var 5) ca_nil))))) (blkOk_by (N := N__law_judge) (sc := (defScope s__law_judge)) (by decide +kernel)) (fun _ _ _ _ _ => (cg_name 6 sc__law_judge.nd)) (fun _ _ _ _ _ => cts_nil) (fun _ _ _ _ _ => (ce_tup (ca_cons (ce_var 4) (ca_cons (ce_var 6) (ca_cons (ce_call ((ok__law_draw e).mono (by decide)) c.hr c.hs rfl e.g__law_draw e.w__law_draw.kp e.b__law_draw lets_no (ca_cons (ce_var 0) (ca_cons (ce_var 2) ca_nil))) ca_nil))))))) pa_nil))))))
    (css_one (cs_ret (ce_tup (ca_cons (ce_totup e.z_tuple (cv_of (ce_of_cn (cn_lc rfl sc__law_judge.nd (own := [("_law_k", 7)]) (cis_of (ci_range1 rfl e.z_range (ca_cons (ce_var 2) ca_nil))) (blkOk_by (N := N__law_judge) (sc := (defScope s__law_judge)) (by decide +kernel)) (fun _ _ _ _ _ => (cg_name 7 sc__law_judge.nd)) (fun _ _ _ _ _ => cts_nil) (fun _ _ _ _ _ => (ce_cmp (op_eqR c.hr) p_eq (cv_of (ce_call ((ok__law_draw e).mono (by decide)) c.hr c.hs rfl e.g__law_draw e.w__law_draw.kp e.b__law_draw lets_no (ca_cons (ce_var 0) (ca_cons ce_int ca_nil)))) (cv_of ce_int) (nomark _))))))) (ca_cons (ce_totup e.z_tuple (cv_of (ce_of_cn (cn_sort c.hr e.z_sorted (cv_own 3))))) ca_nil)))))))
theorem ok__law_whole (e : At K mg) : FnG P w K mg base 1 e.f__law_whole e.d__law_whole ["_law_value", "_law_most"] (spOf ⟨w, K, mg⟩ 2 F__law_whole) :=
  def_ok (k := 0) (n := 2) (N := N__law_whole) (m := m__law_whole) (O' := []) e.w__law_whole sc__law_whole rfl fun cdv A outer s H E c =>
    (css_one (cs_ret (ce_and (ce_isi isa_int e.z_isinstance e.z_int bt_int (cv_of (ce_var 0))) (ce_and (ce_not (ce_isi isa_bool e.z_isinstance e.z_bool bt_bool (cv_of (ce_var 0)))) (ce_one (ce_chain op_leR (op_ltD c.hr) p_le p_ltD (cv_of ce_int) (cv_of (ce_var 0)) (cv_of (ce_var 1))))))))
theorem ok__law_is_judge (e : At K mg) : FnG P w K mg base 2 e.f__law_is_judge e.d__law_is_judge ["_law_kind_here", "_law_value"] (spOf ⟨w, K, mg⟩ 2 F__law_is_judge) :=
  def_ok (k := 1) (n := 2) (N := N__law_is_judge) (m := m__law_is_judge) (O' := []) e.w__law_is_judge sc__law_is_judge rfl fun cdv A outer s H E c =>
    (css_cons (O1 := [false, false, false, false, false, false, false, false, false, false, false])
    (cs_if (O' := [false, false, false, false, false, false, false, false, false, false, false]) (ct_w (cw_or (ct_not (ct_truth (cv_of (ce_isi isa_tuple e.z_isinstance e.z_tuple bt_tuple (cv_of (ce_var 1)))))) (cw_or (ct_cmp (op_neR c.hr) p_eq (cv_of (ce_len e.z_len (cv_of (ce_var 1)))) (cv_of ce_int) (nomark _)) (cw_or1 (ct_not (ct_truth (cv_of (ce_isi isa_tuple e.z_isinstance e.z_tuple bt_tuple (cv_of (ce_ix ix_seq p_ix (cv_of (ce_var 1)) (cv_of ce_int) (fun _ _ => rfl))))))))))) (css_one (cs_ret ce_bl)) css_nil)
    (css_cons (O1 := [false, false, false, false, true, false, false, false, false, false, false])
    (cs_parT (is := [2, 3, 4]) (os := [false, false, true]) rfl (cao_val (ce_ix ix_seq p_ix (cv_of (ce_var 1)) (cv_of ce_int) (fun _ _ => rfl)) (cao_val (ce_ix ix_seq p_ix (cv_of (ce_var 1)) (cv_of ce_int) (fun _ _ => rfl)) (cao_own (cn_lst ca_nil) cao_nil))) rfl (by decide) (pgs_cons (pg_name (i := 2) sc__law_is_judge.nd rfl (by first | exact Or.inl rfl | exact Or.inr rfl)) (pgs_cons (pg_name (i := 3) sc__law_is_judge.nd rfl (by first | exact Or.inl rfl | exact Or.inr rfl)) (pgs_cons (pg_name (i := 4) sc__law_is_judge.nd rfl (by first | exact Or.inl rfl | exact Or.inr rfl)) pgs_nil))))
    (css_cons (O1 := [false, false, false, false, true, false, false, false, false, false, false])
    (cs_if (O' := [false, false, false, false, true, false, false, false, false, false, false]) (ct_w (cw_or (ct_not (ct_chain op_leR op_leR p_le p_le (cv_of ce_int) (cv_of (ce_len e.z_len (cv_of (ce_var 2)))) (cv_of ce_int))) (cw_or1 (ct_not (ct_truth (cv_of (ce_all rfl e.z_all (cv_of (ce_of_cn (cn_lc rfl sc__law_is_judge.nd (own := [("_law_truth", 8)]) (cis_any (cv_of (ce_var 2))) (blkOk_by (N := N__law_is_judge) (sc := (defScope s__law_is_judge)) (by decide +kernel)) (fun _ _ _ _ _ => (cg_name 8 sc__law_is_judge.nd)) (fun _ _ _ _ _ => cts_nil) (fun _ _ _ _ _ => (ce_isi isa_bool e.z_isinstance e.z_bool bt_bool (cv_of (ce_var 8)))))))))))))) (css_one (cs_ret ce_bl)) css_nil)
    (css_cons (O1 := [false, false, false, false, true, false, false, false, false, false, false])
    (cs_for (O1 := [false, false, false, false, true, false, false, false, false, false, false]) c.ps rfl (ci_any (ce_var 0)) (cg_tup rfl (cgs_cons (cg_name 5 sc__law_is_judge.nd) (cgs_cons (cg_name 6 sc__law_is_judge.nd) cgs_nil)))
    (css_one (cs_ext 4 rfl (ps_expr (pe_bm F.plainAttrs_list F.slot_list_extend F.type_list_extend mt_extend (pv 4) (pa_cons (ce_of_cn (cn_lc rfl sc__law_is_judge.nd (own := [("_law_classes", 9)]) (cis_any (cv_of (ce_call ((ok__law_tuples e).mono (by decide)) c.hr c.hs rfl e.g__law_tuples e.w__law_tuples.kp e.b__law_tuples c.tk (ca_cons (ce_len e.z_len (cv_of (ce_var 2))) (ca_cons (ce_var 6) ca_nil))))) (blkOk_by (N := N__law_is_judge) (sc := (defScope s__law_is_judge)) (by decide +kernel)) (fun _ _ _ _ _ => (cg_name 9 sc__law_is_judge.nd)) (fun _ _ _ _ _ => cts_nil) (fun _ _ _ _ _ => (ce_tup (ca_cons (ce_var 5) (ca_cons (ce_var 9) ca_nil)))))) pa_nil))))))
    (css_cons (O1 := [false, false, false, false, true, false, false, false, false, false, false])
    (cs_if (O' := [false, false, false, false, true, false, false, false, false, false, false]) (ct_w (cw_or (ct_not (ct_truth (cv_of (ce_isi isa_tuple e.z_isinstance e.z_tuple bt_tuple (cv_of (ce_var 3)))))) (cw_or1 (ct_cmp (op_neR c.hr) p_eq (cv_of (ce_len e.z_len (cv_of (ce_var 3)))) (cv_of (ce_len e.z_len (cv_own 4))) (nomark _))))) (css_one (cs_ret ce_bl)) css_nil)
    (css_cons (O1 := [false, false, false, false, true, false, false, false, false, false, false])
    (cs_for (O1 := [false, false, false, false, true, false, false, false, false, false, false]) c.ps rfl (ci_any (ce_var 3)) (cg_name 7 sc__law_is_judge.nd)
    (css_cons (O1 := [false, false, false, false, true, false, false, false, false, false, false])
    (cs_if (O' := [false, false, false, false, true, false, false, false, false, false, false]) (ct_w (cw_or (ct_not (ct_truth (cv_of (ce_isi isa_tuple e.z_isinstance e.z_tuple bt_tuple (cv_of (ce_var 7)))))) (cw_or (ct_cmp (op_neR c.hr) p_eq (cv_of (ce_len e.z_len (cv_of (ce_var 7)))) (cv_of ce_int) (nomark _)) (cw_or1 (ct_not (ct_truth (cv_of (ce_isi isa_tuple e.z_isinstance e.z_tuple bt_tuple (cv_of (ce_ix ix_seq p_ix (cv_of (ce_var 7)) (cv_of ce_int) (fun _ _ => rfl))))))))))) (css_one (cs_ret ce_bl)) css_nil)
    (css_one (cs_if (O' := [false, false, false, false, true, false, false, false, false, false, false]) (ct_not (ct_truth (cv_of (ce_all rfl e.z_all (cv_of (ce_of_cn (cn_lc rfl sc__law_is_judge.nd (own := [("_law_number", 10)]) (cis_any (cv_of (ce_op op_addR p_add (cv_of (ce_ix ix_seq p_ix (cv_of (ce_var 7)) (cv_of ce_int) (fun _ _ => rfl))) (cv_of (ce_slice (cv_of (ce_var 7)) (co_some ce_int) co_none))))) (blkOk_by (N := N__law_is_judge) (sc := (defScope s__law_is_judge)) (by decide +kernel)) (fun _ _ _ _ _ => (cg_name 10 sc__law_is_judge.nd)) (fun _ _ _ _ _ => cts_nil) (fun _ _ _ _ _ => (ce_call ((ok__law_whole e).mono (by decide)) c.hr c.hs rfl e.g__law_whole e.w__law_whole.kp e.b__law_whole lets_no (ca_cons (ce_var 10) (ca_cons (ce_len e.z_len (cv_of (ce_var 2))) ca_nil))))))))))) (css_one (cs_ret ce_bl)) css_nil))))
    (css_one (cs_ret (ce_cmp (op_eqR c.hr) p_eq (cv_of (ce_reprD c.hr c.hs e.z_repr (cv_of (ce_of_cn (cn_lc rfl sc__law_is_judge.nd (own := [("_law_row", 7)]) (cis_any (cv_of (ce_var 3))) (blkOk_by (N := N__law_is_judge) (sc := (defScope s__law_is_judge)) (by decide +kernel)) (fun _ _ _ _ _ => (cg_name 7 sc__law_is_judge.nd)) (fun _ _ _ _ _ => cts_nil) (fun _ _ _ _ _ => (ce_slice (cv_of (ce_var 7)) co_none (co_some ce_int)))))))) (cv_of (ce_reprD c.hr c.hs e.z_repr (cv_of (ce_of_cn (cn_sort c.hr e.z_sorted (cv_own 4)))))) (nomark _))))))))))
theorem ok__law_odd (e : At K mg) : FnG P w K mg base 3 e.f__law_odd e.d__law_odd ["_law_deck_here"] (spOf ⟨w, K, mg⟩ 1 F__law_odd) :=
  def_ok (k := 2) (n := 1) (N := N__law_odd) (m := m__law_odd) (O' := []) e.w__law_odd sc__law_odd rfl fun cdv A outer s H E c =>
    (css_one (cs_ret (ce_call ((ok__law_one e).mono (by decide)) c.hr c.hs rfl e.g__law_one e.w__law_one.kp e.b__law_one c.tk (ca_cons (ce_var 0) (ca_cons (ce_lst (ca_cons ce_non (ca_cons ce_bl (ca_cons ce_bl (ca_cons ce_int (ca_cons ce_int (ca_cons ce_int (ca_cons (ce_un un_neg p_neg (cv_of ce_int)) (ca_cons ce_str (ca_cons (ce_tup ca_nil) (ca_cons (ce_lst ca_nil) (ca_cons (ce_of_cn cn_dict0) (ca_cons (ce_tup (ca_cons ce_int ca_nil)) (ca_cons (ce_tup (ca_cons ce_bl ca_nil)) (ca_cons (ce_tup (ca_cons ce_str (ca_cons (ce_tup ca_nil) (ca_cons ce_int ca_nil)))) (ca_cons (ce_op op_pow p_pow (cv_of ce_int) (cv_of ce_int)) ca_nil)))))))))))))))) ca_nil)))))
theorem ok__law_bent (e : At K mg) : ∀ n : Nat, FnG P w K mg base (3 + n) e.f__law_bent e.d__law_bent ["_law_deck_here", "_law_value", "_law_depth"] (spOf ⟨w, K, mg⟩ 3 (F__law_bent n))
  | 0 => def_bad rfl
  | n + 1 => def_ok (k := 3 + n) (n := 3) (N := N__law_bent) (m := m__law_bent_ (F__law_bent n)) (O' := []) e.w__law_bent sc__law_bent rfl fun cdv A outer s H E c =>
    (css_cons (O1 := [false, false, false, false, false])
    (cs_if (O' := [false, false, false, false, false]) (ct_w (cw_or (ct_cmp (op_eqR c.hr) p_eq (cv_of (ce_var 2)) (cv_of ce_int) (nomark _)) (cw_or (ct_not (ct_truth (cv_of (ce_isi isa_tuple e.z_isinstance e.z_tuple bt_tuple (cv_of (ce_var 1)))))) (cw_or (ct_cmp (op_eqR c.hr) p_eq (cv_of (ce_var 1)) (cv_of (ce_tup ca_nil)) (nomark _)) (cw_or1 (ct_cmp (op_eqR c.hr) p_eq (cv_of (ce_call ((ok__law_draw e).mono (by omega)) c.hr c.hs rfl e.g__law_draw e.w__law_draw.kp e.b__law_draw c.tk (ca_cons (ce_var 0) (ca_cons ce_int ca_nil)))) (cv_of ce_int) (nomark _))))))) (css_one (cs_ret (ce_call ((ok__law_odd e).mono (by omega)) c.hr c.hs rfl e.g__law_odd e.w__law_odd.kp e.b__law_odd c.tk (ca_cons (ce_var 0) ca_nil)))) css_nil)
    (css_cons (O1 := [false, false, false, false, false])
    (cs_par2 3 4 (os := [false, false]) rfl sc__law_bent.nd (cao_val (ce_call ((ok__law_draw e).mono (by omega)) c.hr c.hs rfl e.g__law_draw e.w__law_draw.kp e.b__law_draw c.tk (ca_cons (ce_var 0) (ca_cons (ce_len e.z_len (cv_of (ce_var 1))) ca_nil))) (cao_val (ce_call ((ok__law_draw e).mono (by omega)) c.hr c.hs rfl e.g__law_draw e.w__law_draw.kp e.b__law_draw c.tk (ca_cons (ce_var 0) (ca_cons ce_int ca_nil))) cao_nil)))
    (css_cons (O1 := [false, false, false, false, false])
    (cs_if (O' := [false, false, false, false, false]) (ct_cmp (op_eqR c.hr) p_eq (cv_of (ce_var 4)) (cv_of ce_int) (nomark _)) (css_one (cs_ret (ce_op op_addR p_add (cv_of (ce_slice (cv_of (ce_var 1)) co_none (co_some (ce_var 3)))) (cv_of (ce_slice (cv_of (ce_var 1)) (co_some (ce_op op_addR p_add (cv_of (ce_var 3)) (cv_of ce_int))) co_none))))) css_nil)
    (css_cons (O1 := [false, false, false, false, false])
    (cs_if (O' := [false, false, false, false, false]) (ct_cmp (op_eqR c.hr) p_eq (cv_of (ce_var 4)) (cv_of ce_int) (nomark _)) (css_one (cs_ret (ce_op op_addR p_add (cv_of (ce_op op_addR p_add (cv_of (ce_slice (cv_of (ce_var 1)) co_none (co_some (ce_var 3)))) (cv_of (ce_slice (cv_of (ce_var 1)) (co_some (ce_var 3)) (co_some (ce_op op_addR p_add (cv_of (ce_var 3)) (cv_of ce_int))))))) (cv_of (ce_slice (cv_of (ce_var 1)) (co_some (ce_var 3)) co_none))))) css_nil)
    (css_cons (O1 := [false, false, false, false, false])
    (cs_if (O' := [false, false, false, false, false]) (ct_cmp (op_eqR c.hr) p_eq (cv_of (ce_var 4)) (cv_of ce_int) (nomark _)) (css_one (cs_ret (ce_rev (cv_of (ce_var 1))))) css_nil)
    (css_cons (O1 := [false, false, false, false, false])
    (cs_if (O' := [false, false, false, false, false]) (ct_cmp (op_eqR c.hr) p_eq (cv_of (ce_var 4)) (cv_of ce_int) (nomark _)) (css_one (cs_ret (ce_tolist e.z_list (cv_of (ce_var 1))))) css_nil)
    (css_one (cs_ret (ce_op op_addR p_add (cv_of (ce_op op_addR p_add (cv_of (ce_slice (cv_of (ce_var 1)) co_none (co_some (ce_var 3)))) (cv_of (ce_tup (ca_cons (ce_call (ok__law_bent e n) c.hr c.hs rfl e.g__law_bent e.w__law_bent.kp e.b__law_bent c.tk (ca_cons (ce_var 0) (ca_cons (ce_ix ix_seq p_ix (cv_of (ce_var 1)) (cv_of (ce_var 3)) (fun _ _ => rfl)) (ca_cons (ce_op op_sub p_sub (cv_of (ce_var 2)) (cv_of ce_int)) ca_nil)))) ca_nil))))) (cv_of (ce_slice (cv_of (ce_var 1)) (co_some (ce_op op_addR p_add (cv_of (ce_var 3)) (cv_of ce_int))) co_none)))))))))))
theorem ok_law (e : At K mg) : FnG P w K mg base 105 e.f_law e.d_law ["_law_script"] (spOf ⟨w, K, mg⟩ 1 F_law) :=
  def_ok (k := 104) (n := 1) (N := N_law) (m := m_law) (O' := []) e.w_law sc_law rfl fun cdv A outer s H E c =>
    (css_cons (O1 := [false, false, false, false, false, false, false, false, false, false, false])
    (cs_set 1 sc_law.nd (ce_call ((ok__law_deck e).mono (by decide)) c.hr c.hs rfl e.g__law_deck e.w__law_deck.kp e.b__law_deck c.tk (ca_cons (ce_var 0) ca_nil)))
    (css_cons (O1 := [false, false, false, false, false, false, false, false, false, false, false])
    (cs_set 2 sc_law.nd (ce_call ((ok__law_signs e).mono (by decide)) c.hr c.hs rfl e.g__law_signs e.w__law_signs.kp e.b__law_signs c.tk (ca_cons (ce_var 1) (ca_cons ce_int ca_nil))))
    (css_cons (O1 := [false, false, false, false, false, false, false, false, false, false, false])
    (cs_for (O1 := [false, false, false, false, false, false, false, false, false, false, false]) c.ps rfl (ci_range1 rfl e.z_range (ca_cons ce_int ca_nil)) (cg_name 3 sc_law.nd)
    (css_cons (O1 := [false, false, false, false, false, false, false, false, false, false, false])
    (cs_set 4 sc_law.nd (ce_call ((ok__law_kind e).mono (by decide)) c.hr c.hs rfl e.g__law_kind e.w__law_kind.kp e.b__law_kind c.tk (ca_cons (ce_var 1) (ca_cons (ce_var 2) (ca_cons ce_int ca_nil)))))
    (css_cons (O1 := [false, false, false, false, false, false, false, false, false, false, false])
    (cs_set 5 sc_law.nd (ce_call ((ok__law_judge e).mono (by decide)) c.hr c.hs rfl e.g__law_judge e.w__law_judge.kp e.b__law_judge c.tk (ca_cons (ce_var 1) (ca_cons (ce_var 4) (ca_cons (ce_op op_addR p_add (cv_of ce_int) (cv_of (ce_call ((ok__law_draw e).mono (by decide)) c.hr c.hs rfl e.g__law_draw e.w__law_draw.kp e.b__law_draw c.tk (ca_cons (ce_var 1) (ca_cons ce_int ca_nil))))) ca_nil)))))
    (css_cons (O1 := [false, false, false, false, false, false, true, false, false, false, false])
    (cs_own 6 sc_law.nd (cn_lst (ca_cons (ce_var 5) (ca_cons (ce_call ((ok__law_odd e).mono (by decide)) c.hr c.hs rfl e.g__law_odd e.w__law_odd.kp e.b__law_odd c.tk (ca_cons (ce_var 1) ca_nil)) (ca_cons (ce_tup (ca_cons (ce_ix ix_seq p_ix (cv_of (ce_var 5)) (cv_of ce_int) (fun _ _ => rfl)) (ca_cons (ce_slice (cv_of (ce_ix ix_seq p_ix (cv_of (ce_var 5)) (cv_of ce_int) (fun _ _ => rfl))) co_none (co_some (ce_un un_neg p_neg (cv_of ce_int)))) ca_nil))) (ca_cons (ce_tup (ca_cons (ce_tup ca_nil) (ca_cons (ce_tup ca_nil) ca_nil))) (ca_cons (ce_call ((ok__law_judge e).mono (by decide)) c.hr c.hs rfl e.g__law_judge e.w__law_judge.kp e.b__law_judge c.tk (ca_cons (ce_var 1) (ca_cons (ce_slice (cv_of (ce_var 4)) co_none (co_some (ce_un un_neg p_neg (cv_of ce_int)))) (ca_cons ce_int ca_nil)))) ca_nil)))))))
    (css_cons (O1 := [false, false, false, false, false, false, true, false, false, false, false])
    (cs_for (O1 := [false, false, false, false, false, false, true, false, false, false, false]) c.ps rfl (ci_range1 rfl e.z_range (ca_cons ce_int ca_nil)) (cg_name 7 sc_law.nd)
    (css_cons (O1 := [false, false, false, false, false, false, true, false, false, false, false])
    (cs_set 8 sc_law.nd (ce_call ((ok__law_bent e 100).mono (by decide)) c.hr c.hs rfl e.g__law_bent e.w__law_bent.kp e.b__law_bent c.tk (ca_cons (ce_var 1) (ca_cons (ce_var 5) (ca_cons ce_int ca_nil)))))
    (css_one (cs_ext 6 rfl (ps_expr (pe_bm F.plainAttrs_list F.slot_list_extend F.type_list_extend mt_extend (pv 6) (pa_cons (ce_lst (ca_cons (ce_var 8) (ca_cons (ce_call ((ok__law_bent e 100).mono (by decide)) c.hr c.hs rfl e.g__law_bent e.w__law_bent.kp e.b__law_bent c.tk (ca_cons (ce_var 1) (ca_cons (ce_var 8) (ca_cons ce_int ca_nil)))) ca_nil))) pa_nil)))))))
    (css_let [false, false, false, false, false, false, false, false, false, false, false] (css_one (cs_for (O1 := [false, false, false, false, false, false, false, false, false, false, false]) c.ps rfl (ci_any (ce_var 6)) (cg_name 9 sc_law.nd)
    (css_cons (O1 := [false, false, false, false, false, false, false, false, false, false, false])
    (cs_set 10 sc_law.nd (ce_reprD c.hr c.hs e.z_repr (cv_of (ce_var 9))))
    (css_one (cs_if (O' := [false, false, false, false, false, false, false, false, false, false, false]) (ct_w (cw_or (ct_cmp (op_neR c.hr) p_eq (cv_of (ce_reprD c.hr c.hs e.z_repr (cv_of (ce_call ((ok_is_judge e).mono (by decide)) c.hr c.hs rfl e.g_is_judge e.w_is_judge.kp e.b_is_judge c.tk (ca_cons (ce_var 4) (ca_cons (ce_var 9) ca_nil)))))) (cv_of (ce_reprD c.hr c.hs e.z_repr (cv_of (ce_call ((ok__law_is_judge e).mono (by decide)) c.hr c.hs rfl e.g__law_is_judge e.w__law_is_judge.kp e.b__law_is_judge c.tk (ca_cons (ce_var 4) (ca_cons (ce_var 9) ca_nil)))))) (nomark _)) (cw_or1 (ct_cmp (op_neR c.hr) p_eq (cv_of (ce_reprD c.hr c.hs e.z_repr (cv_of (ce_var 9)))) (cv_of (ce_var 10)) (nomark _))))) (css_one (cs_ret ce_bl)) css_nil)))))))))))
    (css_one (cs_ret ce_bl)))))
end
theorem ql0 : String.length "abcdefghijklmnopqrstuvwxyz" = 26 := rfl
theorem ql1 : String.length "" = 0 := rfl
theorem ql2 : String.length "bdgkpx" = 6 := rfl
theorem ql3 : String.length "end" = 3 := rfl
theorem ql4 : String.length "law_anymaze_k70_judges_judged" = 29 := rfl
theorem at_mk {K : PySem.W.Frag} {h : Heap} {mg : Str → Option Value} {fa : Addr} (X : K.In h) (G : h.Ns mainGlobals mg) (hfa : mg "law" = some (.ref fa))
    {f1 : Addr} {od1 an1 : Option Addr} {sl1 : Array (Option Value)} {oc1 kV1 dc1 pm1 cd1 ct1 : Value}
    (a1 : PySem.W.nsIn K mainGlobals "is_number" = some (some (.ref f1))) (l1 : K.lookup f1 = some ⟨oc1, od1, .func (PySem.W.fnOf "is_number" "is_number" (defArgs s_is_number) (defBody s_is_number) (defScope s_is_number) .none kV1 dc1 pm1 an1 cd1 ct1), sl1⟩) (c1 : PySem.W.codeIn K cd1 "is_number" = true) (k1 : PySem.W.keepIn K (.ref f1) = true)
    {f2 : Addr} {od2 an2 : Option Addr} {sl2 : Array (Option Value)} {oc2 kV2 dc2 pm2 cd2 ct2 : Value}
    (a2 : PySem.W.nsIn K mainGlobals "tuples_of" = some (some (.ref f2))) (l2 : K.lookup f2 = some ⟨oc2, od2, .func (PySem.W.fnOf "tuples_of" "tuples_of" (defArgs s_tuples_of) (defBody s_tuples_of) (defScope s_tuples_of) .none kV2 dc2 pm2 an2 cd2 ct2), sl2⟩) (c2 : PySem.W.codeIn K cd2 "tuples_of" = true) (k2 : PySem.W.keepIn K (.ref f2) = true)
    {f3 : Addr} {od3 an3 : Option Addr} {sl3 : Array (Option Value)} {oc3 kV3 dc3 pm3 cd3 ct3 : Value}
    (a3 : PySem.W.nsIn K mainGlobals "keys_of" = some (some (.ref f3))) (l3 : K.lookup f3 = some ⟨oc3, od3, .func (PySem.W.fnOf "keys_of" "keys_of" (defArgs s_keys_of) (defBody s_keys_of) (defScope s_keys_of) .none kV3 dc3 pm3 an3 cd3 ct3), sl3⟩) (c3 : PySem.W.codeIn K cd3 "keys_of" = true) (k3 : PySem.W.keepIn K (.ref f3) = true)
    {f4 : Addr} {od4 an4 : Option Addr} {sl4 : Array (Option Value)} {oc4 kV4 dc4 pm4 cd4 ct4 : Value}
    (a4 : PySem.W.nsIn K mainGlobals "are_truths" = some (some (.ref f4))) (l4 : K.lookup f4 = some ⟨oc4, od4, .func (PySem.W.fnOf "are_truths" "are_truths" (defArgs s_are_truths) (defBody s_are_truths) (defScope s_are_truths) .none kV4 dc4 pm4 an4 cd4 ct4), sl4⟩) (c4 : PySem.W.codeIn K cd4 "are_truths" = true) (k4 : PySem.W.keepIn K (.ref f4) = true)
    {f5 : Addr} {od5 an5 : Option Addr} {sl5 : Array (Option Value)} {oc5 kV5 dc5 pm5 cd5 ct5 : Value}
    (a5 : PySem.W.nsIn K mainGlobals "is_row" = some (some (.ref f5))) (l5 : K.lookup f5 = some ⟨oc5, od5, .func (PySem.W.fnOf "is_row" "is_row" (defArgs s_is_row) (defBody s_is_row) (defScope s_is_row) .none kV5 dc5 pm5 an5 cd5 ct5), sl5⟩) (c5 : PySem.W.codeIn K cd5 "is_row" = true) (k5 : PySem.W.keepIn K (.ref f5) = true)
    {f6 : Addr} {od6 an6 : Option Addr} {sl6 : Array (Option Value)} {oc6 kV6 dc6 pm6 cd6 ct6 : Value}
    (a6 : PySem.W.nsIn K mainGlobals "is_judge" = some (some (.ref f6))) (l6 : K.lookup f6 = some ⟨oc6, od6, .func (PySem.W.fnOf "is_judge" "is_judge" (defArgs s_is_judge) (defBody s_is_judge) (defScope s_is_judge) .none kV6 dc6 pm6 an6 cd6 ct6), sl6⟩) (c6 : PySem.W.codeIn K cd6 "is_judge" = true) (k6 : PySem.W.keepIn K (.ref f6) = true)
    {f7 : Addr} {od7 an7 : Option Addr} {sl7 : Array (Option Value)} {oc7 kV7 dc7 pm7 cd7 ct7 : Value}
    (a7 : PySem.W.nsIn K mainGlobals "_law_deck" = some (some (.ref f7))) (l7 : K.lookup f7 = some ⟨oc7, od7, .func (PySem.W.fnOf "_law_deck" "_law_deck" (defArgs s__law_deck) (defBody s__law_deck) (defScope s__law_deck) .none kV7 dc7 pm7 an7 cd7 ct7), sl7⟩) (c7 : PySem.W.codeIn K cd7 "_law_deck" = true) (k7 : PySem.W.keepIn K (.ref f7) = true)
    {f8 : Addr} {od8 an8 : Option Addr} {sl8 : Array (Option Value)} {oc8 kV8 dc8 pm8 cd8 ct8 : Value}
    (a8 : PySem.W.nsIn K mainGlobals "_law_draw" = some (some (.ref f8))) (l8 : K.lookup f8 = some ⟨oc8, od8, .func (PySem.W.fnOf "_law_draw" "_law_draw" (defArgs s__law_draw) (defBody s__law_draw) (defScope s__law_draw) .none kV8 dc8 pm8 an8 cd8 ct8), sl8⟩) (c8 : PySem.W.codeIn K cd8 "_law_draw" = true) (k8 : PySem.W.keepIn K (.ref f8) = true)
    {f9 : Addr} {od9 an9 : Option Addr} {sl9 : Array (Option Value)} {oc9 kV9 dc9 pm9 cd9 ct9 : Value}
    (a9 : PySem.W.nsIn K mainGlobals "_law_one" = some (some (.ref f9))) (l9 : K.lookup f9 = some ⟨oc9, od9, .func (PySem.W.fnOf "_law_one" "_law_one" (defArgs s__law_one) (defBody s__law_one) (defScope s__law_one) .none kV9 dc9 pm9 an9 cd9 ct9), sl9⟩) (c9 : PySem.W.codeIn K cd9 "_law_one" = true) (k9 : PySem.W.keepIn K (.ref f9) = true)
    {f10 : Addr} {od10 an10 : Option Addr} {sl10 : Array (Option Value)} {oc10 kV10 dc10 pm10 cd10 ct10 : Value}
    (a10 : PySem.W.nsIn K mainGlobals "_law_signs" = some (some (.ref f10))) (l10 : K.lookup f10 = some ⟨oc10, od10, .func (PySem.W.fnOf "_law_signs" "_law_signs" (defArgs s__law_signs) (defBody s__law_signs) (defScope s__law_signs) .none kV10 dc10 pm10 an10 cd10 ct10), sl10⟩) (c10 : PySem.W.codeIn K cd10 "_law_signs" = true) (k10 : PySem.W.keepIn K (.ref f10) = true)
    {f11 : Addr} {od11 an11 : Option Addr} {sl11 : Array (Option Value)} {oc11 kV11 dc11 pm11 cd11 ct11 : Value}
    (a11 : PySem.W.nsIn K mainGlobals "_law_kind" = some (some (.ref f11))) (l11 : K.lookup f11 = some ⟨oc11, od11, .func (PySem.W.fnOf "_law_kind" "_law_kind" (defArgs s__law_kind) (defBody s__law_kind) (defScope s__law_kind) .none kV11 dc11 pm11 an11 cd11 ct11), sl11⟩) (c11 : PySem.W.codeIn K cd11 "_law_kind" = true) (k11 : PySem.W.keepIn K (.ref f11) = true)
    {f12 : Addr} {od12 an12 : Option Addr} {sl12 : Array (Option Value)} {oc12 kV12 dc12 pm12 cd12 ct12 : Value}
    (a12 : PySem.W.nsIn K mainGlobals "_law_tuples" = some (some (.ref f12))) (l12 : K.lookup f12 = some ⟨oc12, od12, .func (PySem.W.fnOf "_law_tuples" "_law_tuples" (defArgs s__law_tuples) (defBody s__law_tuples) (defScope s__law_tuples) .none kV12 dc12 pm12 an12 cd12 ct12), sl12⟩) (c12 : PySem.W.codeIn K cd12 "_law_tuples" = true) (k12 : PySem.W.keepIn K (.ref f12) = true)
    {f13 : Addr} {od13 an13 : Option Addr} {sl13 : Array (Option Value)} {oc13 kV13 dc13 pm13 cd13 ct13 : Value}
    (a13 : PySem.W.nsIn K mainGlobals "_law_judge" = some (some (.ref f13))) (l13 : K.lookup f13 = some ⟨oc13, od13, .func (PySem.W.fnOf "_law_judge" "_law_judge" (defArgs s__law_judge) (defBody s__law_judge) (defScope s__law_judge) .none kV13 dc13 pm13 an13 cd13 ct13), sl13⟩) (c13 : PySem.W.codeIn K cd13 "_law_judge" = true) (k13 : PySem.W.keepIn K (.ref f13) = true)
    {f14 : Addr} {od14 an14 : Option Addr} {sl14 : Array (Option Value)} {oc14 kV14 dc14 pm14 cd14 ct14 : Value}
    (a14 : PySem.W.nsIn K mainGlobals "_law_whole" = some (some (.ref f14))) (l14 : K.lookup f14 = some ⟨oc14, od14, .func (PySem.W.fnOf "_law_whole" "_law_whole" (defArgs s__law_whole) (defBody s__law_whole) (defScope s__law_whole) .none kV14 dc14 pm14 an14 cd14 ct14), sl14⟩) (c14 : PySem.W.codeIn K cd14 "_law_whole" = true) (k14 : PySem.W.keepIn K (.ref f14) = true)
    {f15 : Addr} {od15 an15 : Option Addr} {sl15 : Array (Option Value)} {oc15 kV15 dc15 pm15 cd15 ct15 : Value}
    (a15 : PySem.W.nsIn K mainGlobals "_law_is_judge" = some (some (.ref f15))) (l15 : K.lookup f15 = some ⟨oc15, od15, .func (PySem.W.fnOf "_law_is_judge" "_law_is_judge" (defArgs s__law_is_judge) (defBody s__law_is_judge) (defScope s__law_is_judge) .none kV15 dc15 pm15 an15 cd15 ct15), sl15⟩) (c15 : PySem.W.codeIn K cd15 "_law_is_judge" = true) (k15 : PySem.W.keepIn K (.ref f15) = true)
    {f16 : Addr} {od16 an16 : Option Addr} {sl16 : Array (Option Value)} {oc16 kV16 dc16 pm16 cd16 ct16 : Value}
    (a16 : PySem.W.nsIn K mainGlobals "_law_odd" = some (some (.ref f16))) (l16 : K.lookup f16 = some ⟨oc16, od16, .func (PySem.W.fnOf "_law_odd" "_law_odd" (defArgs s__law_odd) (defBody s__law_odd) (defScope s__law_odd) .none kV16 dc16 pm16 an16 cd16 ct16), sl16⟩) (c16 : PySem.W.codeIn K cd16 "_law_odd" = true) (k16 : PySem.W.keepIn K (.ref f16) = true)
    {f17 : Addr} {od17 an17 : Option Addr} {sl17 : Array (Option Value)} {oc17 kV17 dc17 pm17 cd17 ct17 : Value}
    (a17 : PySem.W.nsIn K mainGlobals "_law_bent" = some (some (.ref f17))) (l17 : K.lookup f17 = some ⟨oc17, od17, .func (PySem.W.fnOf "_law_bent" "_law_bent" (defArgs s__law_bent) (defBody s__law_bent) (defScope s__law_bent) .none kV17 dc17 pm17 an17 cd17 ct17), sl17⟩) (c17 : PySem.W.codeIn K cd17 "_law_bent" = true) (k17 : PySem.W.keepIn K (.ref f17) = true)
    {f18 : Addr} {od18 an18 : Option Addr} {sl18 : Array (Option Value)} {oc18 kV18 dc18 pm18 cd18 ct18 : Value}
    (a18 : PySem.W.nsIn K mainGlobals "law" = some (some (.ref f18))) (l18 : K.lookup f18 = some ⟨oc18, od18, .func (PySem.W.fnOf "law" "law" (defArgs s_law) (defBody s_law) (defScope s_law) .none kV18 dc18 pm18 an18 cd18 ct18), sl18⟩) (c18 : PySem.W.codeIn K cd18 "law" = true) (k18 : PySem.W.keepIn K (.ref f18) = true)
    (z_abs : PySem.W.nsIn K mainGlobals "abs" = some none)
    (z_all : PySem.W.nsIn K mainGlobals "all" = some none)
    (z_bool : PySem.W.nsIn K mainGlobals "bool" = some none)
    (z_int : PySem.W.nsIn K mainGlobals "int" = some none)
    (z_isinstance : PySem.W.nsIn K mainGlobals "isinstance" = some none)
    (z_len : PySem.W.nsIn K mainGlobals "len" = some none)
    (z_list : PySem.W.nsIn K mainGlobals "list" = some none)
    (z_range : PySem.W.nsIn K mainGlobals "range" = some none)
    (z_repr : PySem.W.nsIn K mainGlobals "repr" = some none)
    (z_set : PySem.W.nsIn K mainGlobals "set" = some none)
    (z_sorted : PySem.W.nsIn K mainGlobals "sorted" = some none)
    (z_str : PySem.W.nsIn K mainGlobals "str" = some none)
    (z_sum : PySem.W.nsIn K mainGlobals "sum" = some none)
    (z_tuple : PySem.W.nsIn K mainGlobals "tuple" = some none)
    (z_zip : PySem.W.nsIn K mainGlobals "zip" = some none)
    {t_MAX_ANSWERS : Tok} (v_MAX_ANSWERS : PySem.W.nsIn K mainGlobals "MAX_ANSWERS" = some (some (.int 80 t_MAX_ANSWERS)))
    : ∃ e : At K mg, e.f_law = fa := by
  cases hfa.symm.trans (PySem.W.mg_of X G a18)
  have w1 := fun_mk (st := s_is_number) l1 c1 k1
  have b1 := w1.binds (ps := ["value", "least", "most"]) fun _ _ _ _ _ _ us hl => match us, hl with | [_, _, _], _ => rfl
  have w2 := fun_mk (st := s_tuples_of) l2 c2 k2
  have b2 := w2.binds (ps := ["many", "count"]) fun _ _ _ _ _ _ us hl => match us, hl with | [_, _], _ => rfl
  have w3 := fun_mk (st := s_keys_of) l3 c3 k3
  have b3 := w3.binds (ps := ["kind", "many"]) fun _ _ _ _ _ _ us hl => match us, hl with | [_, _], _ => rfl
  have w4 := fun_mk (st := s_are_truths) l4 c4 k4
  have b4 := w4.binds (ps := ["value"]) fun _ _ _ _ _ _ us hl => match us, hl with | [_], _ => rfl
  have w5 := fun_mk (st := s_is_row) l5 c5 k5
  have b5 := w5.binds (ps := ["row", "key", "many"]) fun _ _ _ _ _ _ us hl => match us, hl with | [_, _, _], _ => rfl
  have w6 := fun_mk (st := s_is_judge) l6 c6 k6
  have b6 := w6.binds (ps := ["kind", "value"]) fun _ _ _ _ _ _ us hl => match us, hl with | [_, _], _ => rfl
  have w7 := fun_mk (st := s__law_deck) l7 c7 k7
  have b7 := w7.binds (ps := ["_law_script"]) fun _ _ _ _ _ _ us hl => match us, hl with | [_], _ => rfl
  have w8 := fun_mk (st := s__law_draw) l8 c8 k8
  have b8 := w8.binds (ps := ["_law_deck_here", "_law_many"]) fun _ _ _ _ _ _ us hl => match us, hl with | [_, _], _ => rfl
  have w9 := fun_mk (st := s__law_one) l9 c9 k9
  have b9 := w9.binds (ps := ["_law_deck_here", "_law_items"]) fun _ _ _ _ _ _ us hl => match us, hl with | [_, _], _ => rfl
  have w10 := fun_mk (st := s__law_signs) l10 c10 k10
  have b10 := w10.binds (ps := ["_law_deck_here", "_law_many"]) fun _ _ _ _ _ _ us hl => match us, hl with | [_, _], _ => rfl
  have w11 := fun_mk (st := s__law_kind) l11 c11 k11
  have b11 := w11.binds (ps := ["_law_deck_here", "_law_signs_here", "_law_most"]) fun _ _ _ _ _ _ us hl => match us, hl with | [_, _, _], _ => rfl
  have w12 := fun_mk (st := s__law_tuples) l12 c12 k12
  have b12 := w12.binds (ps := ["_law_many", "_law_count"]) fun _ _ _ _ _ _ us hl => match us, hl with | [_, _], _ => rfl
  have w13 := fun_mk (st := s__law_judge) l13 c13 k13
  have b13 := w13.binds (ps := ["_law_deck_here", "_law_kind_here", "_law_many"]) fun _ _ _ _ _ _ us hl => match us, hl with | [_, _, _], _ => rfl
  have w14 := fun_mk (st := s__law_whole) l14 c14 k14
  have b14 := w14.binds (ps := ["_law_value", "_law_most"]) fun _ _ _ _ _ _ us hl => match us, hl with | [_, _], _ => rfl
  have w15 := fun_mk (st := s__law_is_judge) l15 c15 k15
  have b15 := w15.binds (ps := ["_law_kind_here", "_law_value"]) fun _ _ _ _ _ _ us hl => match us, hl with | [_, _], _ => rfl
  have w16 := fun_mk (st := s__law_odd) l16 c16 k16
  have b16 := w16.binds (ps := ["_law_deck_here"]) fun _ _ _ _ _ _ us hl => match us, hl with | [_], _ => rfl
  have w17 := fun_mk (st := s__law_bent) l17 c17 k17
  have b17 := w17.binds (ps := ["_law_deck_here", "_law_value", "_law_depth"]) fun _ _ _ _ _ _ us hl => match us, hl with | [_, _, _], _ => rfl
  have w18 := fun_mk (st := s_law) l18 c18 k18
  have b18 := w18.binds (ps := ["_law_script"]) fun _ _ _ _ _ _ us hl => match us, hl with | [_], _ => rfl
  exact ⟨{ f_is_number := _, d_is_number := _, w_is_number := w1, b_is_number := b1, g_is_number := PySem.W.mg_of X G a1, f_tuples_of := _, d_tuples_of := _, w_tuples_of := w2, b_tuples_of := b2, g_tuples_of := PySem.W.mg_of X G a2, f_keys_of := _, d_keys_of := _, w_keys_of := w3, b_keys_of := b3, g_keys_of := PySem.W.mg_of X G a3, f_are_truths := _, d_are_truths := _, w_are_truths := w4, b_are_truths := b4, g_are_truths := PySem.W.mg_of X G a4, f_is_row := _, d_is_row := _, w_is_row := w5, b_is_row := b5, g_is_row := PySem.W.mg_of X G a5, f_is_judge := _, d_is_judge := _, w_is_judge := w6, b_is_judge := b6, g_is_judge := PySem.W.mg_of X G a6, f__law_deck := _, d__law_deck := _, w__law_deck := w7, b__law_deck := b7, g__law_deck := PySem.W.mg_of X G a7, f__law_draw := _, d__law_draw := _, w__law_draw := w8, b__law_draw := b8, g__law_draw := PySem.W.mg_of X G a8, f__law_one := _, d__law_one := _, w__law_one := w9, b__law_one := b9, g__law_one := PySem.W.mg_of X G a9, f__law_signs := _, d__law_signs := _, w__law_signs := w10, b__law_signs := b10, g__law_signs := PySem.W.mg_of X G a10, f__law_kind := _, d__law_kind := _, w__law_kind := w11, b__law_kind := b11, g__law_kind := PySem.W.mg_of X G a11, f__law_tuples := _, d__law_tuples := _, w__law_tuples := w12, b__law_tuples := b12, g__law_tuples := PySem.W.mg_of X G a12, f__law_judge := _, d__law_judge := _, w__law_judge := w13, b__law_judge := b13, g__law_judge := PySem.W.mg_of X G a13, f__law_whole := _, d__law_whole := _, w__law_whole := w14, b__law_whole := b14, g__law_whole := PySem.W.mg_of X G a14, f__law_is_judge := _, d__law_is_judge := _, w__law_is_judge := w15, b__law_is_judge := b15, g__law_is_judge := PySem.W.mg_of X G a15, f__law_odd := _, d__law_odd := _, w__law_odd := w16, b__law_odd := b16, g__law_odd := PySem.W.mg_of X G a16, f__law_bent := _, d__law_bent := _, w__law_bent := w17, b__law_bent := b17, g__law_bent := PySem.W.mg_of X G a17, f_law := _, d_law := _, w_law := w18, b_law := b18, g_law := PySem.W.mg_of X G a18, z_abs := PySem.W.mg_none_of X G z_abs, z_all := PySem.W.mg_none_of X G z_all, z_bool := PySem.W.mg_none_of X G z_bool, z_int := PySem.W.mg_none_of X G z_int, z_isinstance := PySem.W.mg_none_of X G z_isinstance, z_len := PySem.W.mg_none_of X G z_len, z_list := PySem.W.mg_none_of X G z_list, z_range := PySem.W.mg_none_of X G z_range, z_repr := PySem.W.mg_none_of X G z_repr, z_set := PySem.W.mg_none_of X G z_set, z_sorted := PySem.W.mg_none_of X G z_sorted, z_str := PySem.W.mg_none_of X G z_str, z_sum := PySem.W.mg_none_of X G z_sum, z_tuple := PySem.W.mg_none_of X G z_tuple, z_zip := PySem.W.mg_none_of X G z_zip, t_MAX_ANSWERS := t_MAX_ANSWERS, c_MAX_ANSWERS := PySem.W.mg_of X G v_MAX_ANSWERS }, rfl⟩
theorem walk (yes : ∀ ns : List Int, ns.length ≤ 63 → ∃ S, F_law [.scr ns] [] = .ok (.d (.bool true)) S) {q : Program} {loose : List Str} {XP : (Str → Option Value) → Heap → Prop} {YP : World → Heap → Prop} {d : DefRec} {K : Params → PySem.W.Frag} (nod : d.params.defaults = []) (ino : importsNone q = true)
    (kin : ∀ (w : World) (h : Heap), YP w h → (K w.params).In h)
    (F : ∀ (w : World) (mg : Str → Option Value) (fa : Addr) (h : Heap), (K w.params).In h → h.Ns mainGlobals mg → mg d.name = some (.ref fa) → ∃ e : At (K w.params) mg, e.f_law = fa) :
    PySem.W.WalkO q loose XP YP PySem.Challenge.rw_anymaze_k70_judges_judged.row.toRowW d [] (fun f vs => PySem.call f vs) :=
  walk_to (n := 63) (k := 105) (x := "_law_script") rfl (by decide) nod ino ⟨rfl, by decide, by decide⟩ kin (fun w mg fa h a b c => by
    obtain ⟨e, rfl⟩ := F w mg fa h a b c
    exact ⟨e.d_law, e.b_law, fun base _ _ => ok_law e⟩) yes
local macro_rules
  | `(tactic| walk_at "go") => `(tactic| simp only [sSeq, ssat_next, ssat_toS, ssat_nx, ssat_rt, ssat_bk, ssat_ct, ssat_bad, ssat_ite, if_false_right, sat_ok, sat_bad, sat_exc, sat_bind, sat_ite, sPutO, sPutI, sPutD, eD, ownD, sAsg, fE, sIf, sNx, sRet, sDrop, sOwn, sApp, sExt, sPar, sFor, e1, e2, eV, eC, eA, eA1, aC, aN, eSl, oN, oS, eP, eM1, eIf, eCall, eChain, eJ, jC, jN, bB, bTr, bAnd, bOr, bNot, eAnd, eOr, eNot, bYes, iSeq, iA, ofG, ofO, fmtV, strV, tupleV, listV, iaddV, PD.eq_int, PD.eq_str, eq_self, gSet, ggNil, ggCons, ggTup, mkTup, mkLst, mkObj, asDs, asD, ownL,
      List.map_cons, List.map_nil, List.cons_append, List.nil_append, List.length_cons, List.length_nil, List.length_set, List.replicate, List.getElem?_cons_succ, List.getElem?_cons_zero, List.getElem?_nil, List.set_cons_succ, List.set_cons_zero, List.all_cons, List.all_nil, setAll, Option.map_some, Option.map_none, Option.bind_some, Option.bind_none,
      ixV, addV, subV, mulV, modV, divV, powV, negV, lenV, intV, absI, enumV, iterV, PD.slV, boolV, truthV, ltD, revA, ltV, gtV, leV, geV, isV, isNone, L2.atI, ixN, Bool.false_xor, Bool.true_xor, Bool.not_true, Bool.not_false, Bool.and_true, Bool.true_and, Bool.and_false, Bool.false_and, decide_true, decide_false, decide_eq_true_eq, Bool.and_eq_true, if_true, if_false, reduceIte, Bool.false_eq_true, Str.empty_append, List.length_append, ite_true, ite_false, true_and, and_true, Int.cast_ofNat_Int, Nat.reduceAdd, Nat.reduceSub, Nat.reduceLT, Int.reduceLT, Int.reduceLE, Int.reduceToNat, Nat.lt_add_one])
local macro_rules
  | `(tactic| walk_at "g0") => `(tactic| simp only [sSeq, ssat_next, ssat_toS, ssat_nx, ssat_rt, ssat_bk, ssat_ct, ssat_bad, ssat_ite, if_false_right, sat_ok, sat_bad, sat_exc, sat_bind, sat_ite, sPutO, sPutI, sPutD, eD, ownD, sAsg, fE, sIf, sNx, sRet, sDrop, sOwn, sApp, sExt, sPar, sFor, e1, e2, eV, eC, eA, eA1, aC, aN, eSl, oN, oS, eP, eM1, eIf, eCall, eChain, eJ, jC, jN, bB, bTr, bAnd, bOr, bNot, eAnd, eOr, eNot, bYes, iSeq, iA, ofG, ofO, fmtV, strV, tupleV, listV, iaddV, PD.eq_int, PD.eq_str, eq_self, gSet, ggNil, ggCons, ggTup, mkTup, mkLst, mkObj, asDs, asD, ownL,
      List.map_cons, List.map_nil, List.cons_append, List.nil_append, List.length_cons, List.length_nil, List.length_set, List.replicate, List.getElem?_cons_succ, List.getElem?_cons_zero, List.getElem?_nil, List.set_cons_succ, List.set_cons_zero, List.all_cons, List.all_nil, setAll, ixT0, ixT1, ixT2, ixL0, ixL1, ixL2, Option.map_some, Option.map_none, Option.bind_some, Option.bind_none,
      addV, subV, mulV, modV, divV, powV, negV, lenV, intV, absI, enumV, iterV, PD.slV, boolV, truthV, ltD, revA, ltV, gtV, leV, geV, isV, isNone, Bool.false_xor, Bool.true_xor, Bool.not_true, Bool.not_false, Bool.and_true, Bool.true_and, Bool.and_false, Bool.false_and, decide_true, decide_false, decide_eq_true_eq, Bool.and_eq_true, if_true, if_false, reduceIte, Bool.false_eq_true, Str.empty_append, List.length_append, ite_true, ite_false, true_and, and_true, Int.cast_ofNat_Int, Nat.reduceAdd, Nat.reduceSub, Nat.reduceLT, Int.reduceLT, Int.reduceLE, Int.reduceToNat, Nat.lt_add_one])
local macro_rules
  | `(tactic| walk_at "g1") => `(tactic| simp only [sSeq, ssat_next, ssat_toS, ssat_nx, ssat_rt, ssat_bk, ssat_ct, ssat_bad, ssat_ite, if_false_right, sat_ok, sat_bad, sat_exc, sat_bind, sat_ite, sPutO, sPutI, sPutD, eD, ownD, sAsg, fE, sIf, sNx, sRet, sDrop, sOwn, sApp, sExt, sPar, sFor, e1, e2, eV, eC, eA, eA1, aC, aN, eSl, oN, oS, eP, eM1, eIf, eCall, eChain, eJ, jC, jN, bB, bTr, bAnd, bOr, bNot, eAnd, eOr, eNot, bYes, iSeq, iA, ofG, ofO, fmtV, strV, tupleV, listV, iaddV, PD.eq_int, PD.eq_str, eq_self, gSet, ggNil, ggCons, ggTup, mkTup, mkLst, mkObj, asDs, asD, ownL,
      List.map_cons, List.map_nil, List.cons_append, List.nil_append, List.length_cons, List.length_nil, List.length_set, List.replicate, List.getElem?_cons_succ, List.getElem?_cons_zero, List.getElem?_nil, List.set_cons_succ, List.set_cons_zero, List.all_cons, List.all_nil, setAll, ixT0, ixT1, ixT2, ixL0, ixL1, ixL2, Option.map_some, Option.map_none, Option.bind_some, Option.bind_none,
      addV, subV, mulV, modV, divV, powV, negV, lenV, intV, absI, enumV, iterV, PD.slV, boolV, truthV, ltD, revA, ltV, gtV, leV, geV, isV, isNone, Bool.false_xor, Bool.true_xor, Bool.not_true, Bool.not_false, Bool.and_true, Bool.true_and, Bool.and_false, Bool.false_and, decide_true, decide_false, decide_eq_true_eq, Bool.and_eq_true, if_true, if_false, reduceIte, Bool.false_eq_true, Str.empty_append, List.length_append, ite_true, ite_false, true_and, and_true, Int.cast_ofNat_Int, Nat.reduceAdd, Nat.reduceSub, Nat.reduceLT, Int.reduceLT, Int.reduceSub, Int.reduceAdd, Int.reduceNeg, Int.reduceLE, Int.reduceToNat, Nat.lt_add_one])
local macro_rules
  | `(tactic| walk_at "g") => `(tactic| simp only [sSeq, ssat_next, ssat_toS, ssat_nx, ssat_rt, ssat_bk, ssat_ct, ssat_bad, ssat_ite, if_false_right, sat_ok, sat_bad, sat_exc, sat_bind, sat_ite, sPutO, sPutI, sPutD, sAug, eD, ownD, sAsg, fE, sIf, sNx, sRet, sDrop, sOwn, sApp, sExt, sPar, sFor, e1, e2, eV, eC, eA, eA1, aC, aN, eSl, oN, oS, eP, eM1, eIf, eCall, eChain, eJ, jC, jN, bB, bTr, bAnd, bOr, bNot, eAnd, eOr, eNot, bYes, iSeq, iA, ofG, ofO, fmtV, strV, tupleV, listV, iaddV, PD.eq_int, PD.eq_str, eq_self, gSet, ggNil, ggCons, ggTup, mkTup, mkLst, mkObj, asDs, asD, ownL,
      List.map_cons, List.map_nil, List.cons_append, List.nil_append, List.length_cons, List.length_nil, List.length_set, List.replicate, List.getElem?_cons_succ, List.getElem?_cons_zero, List.getElem?_nil, List.set_cons_succ, List.set_cons_zero, List.all_cons, List.all_nil, setAll, ixT0, ixT1, ixT2, ixL0, ixL1, ixL2, Option.map_some, Option.map_none, Option.bind_some, Option.bind_none,
      addV, subV, mulW, mulV, modV, divV, powV, negV, lenV, intV, absI, enumV, iterV, PD.slV, boolV, truthV, ltD, revA, ltV, gtV, leV, geV, isV, isNone, Bool.false_xor, Bool.true_xor, Bool.not_true, Bool.not_false, Bool.and_true, Bool.true_and, Bool.and_false, Bool.false_and, decide_true, decide_false, decide_eq_true_eq, Bool.and_eq_true, if_true, if_false, reduceIte, Bool.false_eq_true, Str.empty_append, List.length_append, ite_true, ite_false, true_and, and_true, Int.cast_ofNat_Int, Nat.reduceAdd, Nat.reduceSub, Nat.reduceLT, Int.reduceLT, Int.reduceSub, Int.reduceAdd, Int.reduceNeg, Int.reduceLE, Int.reduceToNat, Nat.lt_add_one, beq_iff_eq, sizeLine_eq, Nat.reduceLeDiff, inV_tup, inV_lst, eqv_str, eqv_int, eqV_nilT, cutD_tail, false_and, and_false, or_true, true_or, or_false, false_or, ixT3, Bool.true_eq_false, Bool.or_eq_false_iff, decide_eq_false_iff_not, Int.not_le, Int.not_lt, beq_self_eq_true, Int.reduceBEq, Bool.not_eq_eq_eq_not, beq_eq_false_iff_ne, ne_eq, not_true_eq_false, not_false_eq_true, List.isEmpty_cons, List.isEmpty_nil, List.any_cons, List.any_nil, Bool.or_false, Bool.or_eq_true, isaV, PyData.isInt, PyData.isStr, PyData.isBool, PyData.isTuple, PyData.isList, PyData.isDict, m_tuples_of_1_E, m_tuples_of_3_E, m_tuples_of_2_E, m_tuples_of_4_E, m_tuples_of_E, m_keys_of_1_E, m_keys_of_3_E, m_keys_of_2_E, m_keys_of_4_E, m_keys_of_E, m_are_truths_2_E, m_are_truths_1_E, m_are_truths_3_E, m_are_truths_E, m_is_row_2_E, m_is_row_1_E, m_is_row_4_E, m_is_row_3_E, m_is_row_5_E, m_is_row_E, m_is_judge_2_E, m_is_judge_1_E, m_is_judge_3_E, m_is_judge_5_E, m_is_judge_4_E, m_is_judge_6_E, m_is_judge_E, m__law_tuples_1_E, m__law_tuples_3_E, m__law_tuples_5_E, m__law_tuples_4_E, m__law_tuples_6_E, m__law_tuples_2_E, m__law_tuples_7_E, m__law_tuples_E, m__law_judge_1_E, m__law_judge_3_E, m__law_judge_2_E, m__law_judge_4_E, m__law_judge_E, m__law_whole_1_E, m__law_whole_E, m__law_is_judge_2_E, m__law_is_judge_1_E, m__law_is_judge_3_E, m__law_is_judge_5_E, m__law_is_judge_4_E, m__law_is_judge_7_E, m__law_is_judge_6_E, m__law_is_judge_9_E, m__law_is_judge_8_E, m__law_is_judge_12_E, m__law_is_judge_11_E, m__law_is_judge_14_E, m__law_is_judge_13_E, m__law_is_judge_10_E, m__law_is_judge_15_E, m__law_is_judge_E, m__law_odd_1_E, m__law_odd_E, m__law_bent_2_E, m__law_bent_1_E, m__law_bent_3_E, m__law_bent_5_E, m__law_bent_4_E, m__law_bent_7_E, m__law_bent_6_E, m__law_bent_9_E, m__law_bent_8_E, m__law_bent_11_E, m__law_bent_10_E, m__law_bent_12_E, m__law_bent_E, m_law_1_E, m_law_2_E, m_law_4_E, m_law_5_E, m_law_6_E, m_law_8_E, m_law_9_E, m_law_7_E, m_law_11_E, m_law_13_E, m_law_12_E, m_law_10_E, m_law_3_E, m_law_14_E, m_law_E])
local macro_rules
  | `(tactic| walk_at "gt") => `(tactic| try walk_at "go")
local macro_rules
  | `(tactic| walk_at "gq") => `(tactic| try walk_at "g0")
local macro_rules
  | `(tactic| walk_at "len") => `(tactic| (simp only [Str.length_append, PySem.ofString_length, len_nil, sizeLine_eq, ql0, ql1, ql2, ql3, ql4] at *; omega))
local macro_rules
  | `(tactic| walk_at "fin") => `(tactic| ((repeat' apply And.intro) <;> first | assumption | exact True.intro | walk_at "len" | rfl))
local macro_rules
  | `(tactic| walk_at "start") => `(tactic| (rw [sat_body]; simp only [List.map_cons, List.map_nil, List.cons_append, List.nil_append, List.length_cons, List.length_nil, Nat.reduceAdd, Nat.reduceSub, List.replicate]))
local macro_rules
  | `(tactic| walk_at "wd") => `(tactic| first | assumption | exact Wd.none | exact Wd.bool | exact Wd.small (by decide) (by decide) | exact Wd.lit (by decide) | exact Wd.dict0 | exact Wd.tup Wds.nil | exact Wd.lst Wds.nil | (refine Wd.t1 (k := 2) (a := 990) ?_ (by decide) <;> walk_at "wd") | (refine Wd.t2 (k := 2) (a := 990) (b := 990) ?_ ?_ (by decide) <;> walk_at "wd") | (refine Wd.t3 (k := 2) (a := 990) (b := 990) (c := 990) ?_ ?_ ?_ (by decide) <;> walk_at "wd") | (refine Wd.t4 (k := 2) (a := 990) (b := 990) (c := 990) (e := 990) ?_ ?_ ?_ ?_ (by decide) <;> walk_at "wd") | (refine Wd.t1 (k := 1) (a := 240) ?_ (by decide) <;> walk_at "wd") | (refine Wd.t2 (k := 1) (a := 240) (b := 240) ?_ ?_ (by decide) <;> walk_at "wd") | (refine Wd.t3 (k := 1) (a := 240) (b := 240) (c := 240) ?_ ?_ ?_ (by decide) <;> walk_at "wd") | (refine Wd.t4 (k := 1) (a := 240) (b := 240) (c := 240) (e := 240) ?_ ?_ ?_ ?_ (by decide) <;> walk_at "wd") | (refine Wd.t1 (k := 0) (a := 55) ?_ (by decide) <;> walk_at "wd") | (refine Wd.t2 (k := 0) (a := 55) (b := 55) ?_ ?_ (by decide) <;> walk_at "wd") | (refine Wd.t3 (k := 0) (a := 55) (b := 55) (c := 55) ?_ ?_ ?_ (by decide) <;> walk_at "wd") | (refine Wd.t4 (k := 0) (a := 55) (b := 55) (c := 55) (e := 55) ?_ ?_ ?_ ?_ (by decide) <;> walk_at "wd"))
def tupsI (many : Nat) : Nat → List (List Int)
  | 0 => [[]]
  | c + 1 => (tupsI many c).flatMap fun r => (List.range many).map fun i => r ++ [((i : Nat) : Int)]
def tupD (r : List Int) : PyData := .tuple (r.map .int)
theorem flat_len {α β : Type} {f : α → List β} {n : Nat} : ∀ {xs : List α}, (∀ x ∈ xs, (f x).length = n) → (xs.flatMap f).length = xs.length * n
  | [], _ => by simp
  | x :: xs, h => by
    rw [List.flatMap_cons, List.length_append, h x (by simp), flat_len fun y hy => h y (by simp [hy]), List.length_cons, Nat.succ_mul, Nat.add_comm]
theorem tupsI_len (many : Nat) : ∀ c, (tupsI many c).length = many ^ c
  | 0 => rfl
  | c + 1 => by rw [tupsI, flat_len (n := many) (fun x _ => by simp), tupsI_len many c, Nat.pow_succ]
theorem tupsI_items (many : Nat) : ∀ c, ∀ r ∈ tupsI many c, r.length = c ∧ ∀ i ∈ r, 0 ≤ i ∧ i < many
  | 0, r, h => by simp [tupsI] at h; subst h; simp
  | c + 1, r, h => by
    rw [tupsI] at h
    obtain ⟨q, hq, h⟩ := List.mem_flatMap.mp h
    obtain ⟨i, hi, rfl⟩ := List.mem_map.mp h
    obtain ⟨l, hl⟩ := tupsI_items many c q hq
    refine ⟨by simp [l], fun j hj => ?_⟩
    rcases List.mem_append.mp hj with e | e
    · exact hl j e
    · have := List.mem_range.mp hi
      rw [List.mem_singleton.mp e]; omega
theorem comp2_map {α β : Type} {enc : α → PyData} {enc1 : β → PyData} {g : GM} {it1 : AM} {g1 : GM} {te : EM} {vs vs1 : List Nat} {fr : Fr} {S : Store} {zs : α → List β} {f : α → β → PyData} : ∀ {ys : List α} {acc : List PyData},
    (∀ y ∈ ys, ∃ fr1, g (.d (enc y)) (wipeF fr vs) = some fr1 ∧ it1 fr1 S = .ok (((zs y).map enc1).map .d) S ∧ ∀ z ∈ zs y, ∃ fr2, g1 (.d (enc1 z)) (wipeF fr1 vs1) = some fr2 ∧ te fr2 S = .ok (.d (f y z)) S) →
    acc.length + (ys.flatMap zs).length ≤ sizeLine → comp2F g bYes it1 g1 bYes te vs vs1 fr ((ys.map enc).map .d) S acc = .ok (acc ++ ys.flatMap fun y => (zs y).map (f y)) S
  | [], acc, _, _ => by simp [comp2F]
  | y :: ys, acc, h, hl => by
    obtain ⟨fr1, e, h1, h2⟩ := h y List.mem_cons_self
    rw [List.flatMap_cons, List.length_append] at hl
    simp only [List.map_cons, comp2F, e, bYes, noX, Rs.bind, h1, if_true]
    have := comp_map (vs := vs1) (acc := acc) h2 (by omega)
    rw [this]
    simp only
    have ih := comp2_map (ys := ys) (acc := acc ++ (zs y).map (f y)) (fun z hz => h z (by simp [hz])) (by rw [List.length_append, List.length_map]; omega)
    rw [ih, List.flatMap_cons, List.append_assoc]
section
variable {rest : Store} {n : Int} {S : Store}
theorem pow_le {many c : Nat} (hm : many ≤ 80) (hc : c ≤ 2) : many ^ c ≤ 6400 := by
  match c, hc with
  | 0, _ => simp
  | 1, _ => simp; omega
  | 2, _ => rw [Nat.pow_two]; exact Nat.mul_le_mul hm hm
theorem tups_step (many c : Nat) : ((tupsI many c).flatMap fun r => (List.range many).map fun i => PyData.tuple (r.map PyData.int ++ [.int ((i : Nat) : Int)])) = (tupsI many (c + 1)).map tupD := by
  rw [tupsI, List.map_flatMap]
  congr 1
  funext r
  rw [List.map_map]
  congr 1
  funext i
  simp [tupD]
theorem tuples_of_eq (many c : Nat) (S : Store) (hm : many ≤ 80) (hc : c ≤ 2) : F_tuples_of [.d (.int (many : Nat)), .d (.int (c : Nat))] S = .ok (.d (.list ((tupsI many c).map tupD))) S := by
  have sz : sizeLine = 16777216 := sizeLine_eq
  refine sat_eq ?_
  unfold F_tuples_of
  walk_at "start"
  walk_at "g"
  rw [rng1_ok (by omega) (by omega)]
  walk_at "g"
  refine ssat_rng (fun j fr S' => S' = S ∧ ∃ x3 x4 x5, fr = [some (.d (.int (many : Nat))), some (.d (.int (c : Nat))), some (.d (.list ((tupsI many j).map tupD))), x3, x4, x5]) ⟨rfl, _, _, _, rfl⟩ (fun j fr S' hj ⟨e1, x3, x4, x5, e2⟩ => ?_) fun fr S' ⟨e1, x3, x4, x5, e2⟩ => ?_
  · subst e1 e2
    refine ⟨_, rfl, ?_⟩
    walk_at "g"
    simp only [eLc2]
    walk_at "g"
    rw [comp2_map (enc := tupD) (enc1 := fun i : Nat => PyData.int (i : Nat)) (zs := fun _ => List.range many) (f := fun r i => PyData.tuple (r.map PyData.int ++ [.int ((i : Nat) : Int)])) (fun r hr => ⟨_, rfl, sat_eq (by
        simp only [wipeF]
        walk_at "g"
        rw [rng1_ok (by omega) (by omega)]
        walk_at "g"
        rw [rng_nat]), fun z hz => ⟨_, rfl, sat_eq (by
        obtain ⟨l, _⟩ := tupsI_items many j r hr
        simp only [wipeF]
        walk_at "g"
        simp only [tupD]
        walk_at "g"
        rw [sizeLine_eq] at *
        simp
        omega)⟩⟩) (by
        rw [flat_len (n := many) (fun x _ => by simp), tupsI_len, sz]
        have h1 := pow_le (many := many) (c := j + 1) hm (by omega)
        rw [Nat.pow_succ] at h1
        simp; omega)]
    walk_at "g"
    rw [tups_step]
    exact ⟨_, _, _, rfl⟩
  · subst e1 e2
    walk_at "g"
    rw [show (c : Int).toNat = c by omega]
theorem law_tuples_eq (many c : Nat) (S : Store) (hm : many ≤ 80) (hc : c ≤ 2) : F__law_tuples [.d (.int (many : Nat)), .d (.int (c : Nat))] S = .ok (.d (.list ((tupsI many c).map tupD))) S := by
  have sz : sizeLine = 16777216 := sizeLine_eq
  refine sat_eq ?_
  unfold F__law_tuples
  walk_at "start"
  walk_at "g"
  rw [rng1_ok (by omega) (by omega)]
  walk_at "g"
  refine ssat_rng (fun j fr S' => S' = S ∧ ∃ x3 x4 x5 x6, fr = [some (.d (.int (many : Nat))), some (.d (.int (c : Nat))), some (.d (.list ((tupsI many j).map tupD))), x3, x4, x5, x6]) ⟨rfl, _, _, _, _, rfl⟩ (fun j fr S' hj ⟨e1, x3, x4, x5, x6, e2⟩ => ?_) fun fr S' ⟨e1, x3, x4, x5, x6, e2⟩ => ?_
  · subst e1 e2
    refine ⟨_, rfl, ?_⟩
    walk_at "g"
    rw [show ((tupsI many j).map tupD).map SV.d = (tupsI many j).map fun r => SV.d (tupD r) by rw [List.map_map]; rfl]
    have le2 := pow_le (many := many) (c := j + 1) hm (by omega)
    refine ssat_each (enc := fun r => SV.d (tupD r)) (fun done fr S1 => S1 = S' ∧ ∃ x5 x6, fr = [some (.d (.int (many : Nat))), some (.d (.int (c : Nat))), some (.d (.list ((tupsI many j).map tupD))), some (.d (.int (j : Nat))), some (.d (.list (done.flatMap fun r => (List.range many).map fun i => PyData.tuple (r.map PyData.int ++ [.int ((i : Nat) : Int)])))), x5, x6]) ⟨rfl, _, _, rfl⟩ (fun done y more e fr S1 ⟨e1, x5, x6, e2⟩ => ?_) fun fr S' ⟨e1, x5, x6, e2⟩ => ?_
    · subst e1 e2
      refine ⟨_, rfl, ?_⟩
      walk_at "g"
      simp only [eLc]
      walk_at "g"
      rw [rng1_ok (by omega) (by omega)]
      walk_at "g"
      rw [rng_nat, comp_map (enc := fun i : Nat => PyData.int (i : Nat)) (f := fun i => PyData.tuple (y.map PyData.int ++ [.int ((i : Nat) : Int)])) (fun i hi => ⟨_, rfl, sat_eq (by
        obtain ⟨l, _⟩ := tupsI_items many j y (by rw [e]; simp)
        simp only [wipeF]
        walk_at "g"
        simp only [tupD]
        walk_at "g"
        rw [sizeLine_eq] at *
        simp
        omega)⟩) (by rw [sz]; simp; omega)]
      walk_at "g"
      have ld : done.length < many ^ j := by rw [← tupsI_len, e]; simp
      have lm : done.length * many ≤ 6400 := Nat.le_trans (Nat.mul_le_mul_right many (Nat.le_of_lt ld)) (by rw [← Nat.pow_succ]; exact le2)
      refine ⟨by rw [flat_len (n := many) (fun x _ => by simp)]; simp; omega, _, _, by rw [List.flatMap_append, List.flatMap_cons, List.flatMap_nil, List.append_nil]⟩
    · subst e1 e2
      walk_at "g"
      rw [tups_step]
      exact ⟨_, _, _, _, rfl⟩
  · subst e1 e2
    walk_at "g"
    rw [show (c : Int).toNat = c by omega]
def keysI (ps : List (Str × Int)) (many : Nat) : List (Str × List Int) := ps.flatMap fun p => (tupsI many p.2.toNat).map fun r => (p.1, r)
def keyD (q : Str × List Int) : PyData := .tuple [.str q.1, tupD q.2]
def sortedKeys (ps : List (Str × Int)) (many : Nat) : List PyData := dsort ((keysI ps many).map keyD)
def keyCount (ps : List (Str × Int)) (many : Nat) : Nat := (ps.map fun p => many ^ p.2.toNat).sum
theorem keysI_len (ps : List (Str × Int)) (many : Nat) : (keysI ps many).length = keyCount ps many := by
  unfold keysI keyCount
  induction ps with
  | nil => rfl
  | cons p ps ih => rw [List.flatMap_cons, List.length_append, List.length_map, tupsI_len, ih]; simp
theorem sorted_len (ps : List (Str × Int)) (many : Nat) : (sortedKeys ps many).length = keyCount ps many := by
  unfold sortedKeys
  rw [(dsort_perm _).length_eq, List.length_map, keysI_len]
theorem sorted_mem {ps : List (Str × Int)} {many : Nat} {d : PyData} (h : d ∈ sortedKeys ps many) : ∃ q ∈ keysI ps many, d = keyD q := by
  obtain ⟨q, hq, e⟩ := List.mem_map.mp ((dsort_perm _).mem_iff.mp h)
  exact ⟨q, hq, e.symm⟩
theorem keysI_mem {ps : List (Str × Int)} {many : Nat} {q : Str × List Int} (h : q ∈ keysI ps many) : ∃ p ∈ ps, q.1 = p.1 ∧ q.2.length = p.2.toNat ∧ ∀ i ∈ q.2, 0 ≤ i ∧ i < many := by
  obtain ⟨p, hp, h⟩ := List.mem_flatMap.mp h
  obtain ⟨r, hr, rfl⟩ := List.mem_map.mp h
  obtain ⟨a, b⟩ := tupsI_items many _ r hr
  exact ⟨p, hp, rfl, a, b⟩
theorem ints_alike : ∀ xs ys : List Int, PySem.W.alikeAll (xs.map .int) (ys.map .int) = true
  | [], _ => by rw [List.map_nil, PySem.W.alikeAll]
  | _ :: _, [] => by rw [List.map_nil, List.map_cons, PySem.W.alikeAll]
  | x :: xs, y :: ys => by rw [List.map_cons, List.map_cons, PySem.W.alikeAll, ints_alike xs ys]; rfl
theorem ints_depth : ∀ xs : List Int, PyData.depthAll (xs.map .int) = 0
  | [] => rfl
  | x :: xs => by rw [List.map_cons, PyData.depthAll, ints_depth xs]; rfl
theorem key_depth1 (q : Str × List Int) : (keyD q).depth = 2 := by
  simp only [keyD, tupD, PyData.depth, PyData.depthAll, ints_depth]
  rfl
theorem keys_sort (qs : List (Str × List Int)) (hl : qs.length ≤ sizeLine) : sortOk (qs.map keyD) = true := by
  simp only [sortOk, Bool.and_eq_true, Bool.or_eq_true, List.all_eq_true, decide_eq_true_eq, List.length_map]
  refine ⟨⟨⟨alikeL_of fun d hd e he => ?_, hl⟩, fun d hd => ?_⟩, .inl fun d hd => ?_⟩
  · obtain ⟨p, _, rfl⟩ := List.mem_map.mp hd
    obtain ⟨q, _, rfl⟩ := List.mem_map.mp he
    simp only [keyD, tupD, PySem.W.alike, PySem.W.alikeAll, ints_alike, Bool.and_self]
  · obtain ⟨p, _, rfl⟩ := List.mem_map.mp hd
    rw [key_depth1]
    decide
  · obtain ⟨p, _, rfl⟩ := List.mem_map.mp hd
    rfl
structure Shapes (ps : List (Str × Int)) : Prop where
  cnt : ∀ p ∈ ps, 0 ≤ p.2 ∧ p.2 ≤ 2
  sn : ∀ p ∈ ps, Sn p.1
  len : ps.length ≤ 30
theorem sum_le' {α : Type} {f : α → Nat} {m : Nat} : ∀ {xs : List α}, (∀ x ∈ xs, f x ≤ m) → (xs.map f).sum ≤ xs.length * m
  | [], _ => by simp
  | x :: xs, h => by
    rw [List.map_cons, List.sum_cons, List.length_cons, Nat.succ_mul]
    have := h x (by simp)
    have := sum_le' (xs := xs) fun y hy => h y (by simp [hy])
    omega
theorem count_le {ps : List (Str × Int)} {many : Nat} (K : Shapes ps) (hm : many ≤ 80) : keyCount ps many ≤ 192000 := by
  have h1 : keyCount ps many ≤ ps.length * 6400 := sum_le' fun p hp => pow_le hm (by have := K.cnt p hp; omega)
  have := K.len
  have h2 : ps.length * 6400 ≤ 30 * 6400 := Nat.mul_le_mul_right _ this
  omega
theorem keys_map (ps : List (Str × Int)) (many : Nat) : (ps.flatMap fun p => (tupsI many p.2.toNat).map fun r => PyData.tuple [.str p.1, tupD r]) = (keysI ps many).map keyD := by
  unfold keysI
  rw [List.map_flatMap]
  congr 1
  funext p
  rw [List.map_map]
  rfl
theorem done_le {ps done more : List (Str × Int)} {y : Str × Int} {many : Nat} (e : ps = done ++ y :: more) : (done.flatMap fun p => (tupsI many p.2.toNat).map fun r => PyData.tuple [.str p.1, tupD r]).length + many ^ y.2.toNat ≤ keyCount ps many := by
  rw [keys_map, List.length_map, keysI_len, e]
  simp only [keyCount, List.map_append, List.map_cons, List.sum_append, List.sum_cons]
  omega
theorem keys_of_eq (ps : List (Str × Int)) (many : Nat) (S : Store) (K : Shapes ps) (hm : many ≤ 80) : F_keys_of [.d (.tuple (ps.map pd)), .d (.int (many : Nat))] S = .ok (.d (.list (sortedKeys ps many))) S := by
  have sz : sizeLine = 16777216 := sizeLine_eq
  have cl := count_le K hm
  refine sat_eq ?_
  unfold F_keys_of
  walk_at "start"
  walk_at "g"
  rw [show (ps.map pd).map SV.d = ps.map fun p => SV.d (pd p) by rw [List.map_map]; rfl]
  refine ssat_each (enc := fun p => SV.d (pd p)) (fun done fr S' => S' = S ∧ ∃ x3 x4 x5, fr = [some (.d (.tuple (ps.map pd))), some (.d (.int (many : Nat))), some (.d (.list (done.flatMap fun p => (tupsI many p.2.toNat).map fun r => PyData.tuple [.str p.1, tupD r]))), x3, x4, x5]) ⟨rfl, _, _, _, rfl⟩ (fun done y more e fr S' ⟨e1, x3, x4, x5, e2⟩ => ?_) fun fr S' ⟨e1, x3, x4, x5, e2⟩ => ?_
  · subst e1 e2
    have hy := K.cnt y (by rw [e]; simp)
    have dl := done_le (many := many) e
    obtain ⟨s, c⟩ := y
    obtain ⟨c, rfl⟩ : ∃ k : Nat, c = k := ⟨c.toNat, by simp at hy; omega⟩
    simp at hy
    simp only [Int.toNat_natCast] at dl
    refine ⟨_, rfl, ?_⟩
    walk_at "g"
    simp only [eLc]
    walk_at "g"
    rw [tuples_of_eq many c _ hm (by omega)]
    walk_at "g"
    have pl := pow_le (many := many) (c := c) hm (by omega)
    rw [comp_map (enc := tupD) (f := fun r => PyData.tuple [.str s, tupD r]) (fun r hr => ⟨_, rfl, sat_eq (by
      simp only [wipeF]
      walk_at "g")⟩) (by rw [tupsI_len, sz]; simp; omega)]
    walk_at "g"
    refine ⟨by rw [List.length_map, tupsI_len]; omega, _, _, _, by rw [List.flatMap_append, List.flatMap_cons, List.flatMap_nil, List.append_nil]; rfl⟩
  · subst e1 e2
    walk_at "g"
    rw [keys_map]
    simp only [sortV]
    rw [keys_sort _ (by rw [keysI_len]; omega), if_pos rfl]
    walk_at "g"
    rfl
end
def rowOk (many : Nat) (key : PyData) : PyData → Bool
  | .tuple [.str x, .tuple ns, w] => (ns ++ [w]).all (wholeOk 0 ((many : Int) - 1)) && PyData.eqv (.tuple [.str x, .tuple ns]) key
  | _ => false
def isB (d : PyData) : Bool := PyData.isBool d
def truthsOk : PyData → Bool
  | .tuple ts => decide (1 ≤ ts.length) && decide (ts.length ≤ 80) && ts.all isB
  | _ => false
def judgeOk (ps : List (Str × Int)) : PyData → Bool
  | .tuple [.tuple ts, .tuple rows] => truthsOk (.tuple ts) && decide (rows.length = keyCount ps ts.length) && ((rows.zip (sortedKeys ps ts.length)).all fun q => rowOk ts.length q.2 q.1)
  | _ => false
theorem bools_map {α : Type} {f : α → Bool} : ∀ xs : List α, boolsOf (xs.map fun x => PyData.bool (f x)) = some (xs.map f)
  | [] => rfl
  | x :: xs => by simp [boolsOf, bools_map xs]
theorem all_ok {α : Type} {f : α → Bool} {xs : List α} {S : Store} : allV [.d (.list (xs.map fun x => PyData.bool (f x)))] S = .ok (.d (.bool (xs.all f))) S := by
  simp only [allV, bools_map, List.all_map]
  rfl
theorem is_number_eq (v : PyData) (lo hi : Int) (S : Store) : F_is_number [.d v, .d (.int lo), .d (.int hi)] S = .ok (.d (.bool (wholeOk lo hi v))) S := is_whole_eq v lo hi S
section
variable {k : Nat}
theorem cut2a {x y w : PyData} : cutD [x, y, w] none (some 2) = [x, y] := rfl
theorem cut2b {x y w : PyData} : cutD [x, y, w] (some 2) none = [w] := rfl
theorem lay_ints : ∀ ns : List Int, PyData.canLayAll0 (ns.map .int) = true
  | [] => rfl
  | n :: ns => by rw [List.map_cons, PyData.canLayAll0, lay_ints ns]; rfl
theorem ints_of {ns : List PyData} {lo hi : Int} (h : ns.all (wholeOk lo hi) = true) : ∃ is : List Int, ns = is.map .int := by
  induction ns with
  | nil => exact ⟨[], rfl⟩
  | cons n ns ih =>
    simp only [List.all_cons, Bool.and_eq_true] at h
    obtain ⟨is, rfl⟩ := ih h.2
    cases n with
    | int i => exact ⟨i :: is, rfl⟩
    | _ => simp [wholeOk] at h
theorem row_len {many : Nat} {key : PyData} {xs : List PyData} (h : xs.length ≠ 3) : rowOk many key (.tuple xs) = false := by
  match xs, h with
  | [], _ => rfl
  | [a], _ => cases a <;> rfl
  | [a, b], _ => cases a <;> cases b <;> rfl
  | [a, b, c], h => exact absurd rfl h
  | a :: b :: c :: d :: r, _ => cases a <;> cases b <;> rfl
theorem is_row_eq (row : PyData) (q : Str × List Int) (many : Nat) (S : Store) (hv : Wd k 1000000 row) (hq : Sn q.1) : F_is_row [.d row, .d (keyD q), .d (.int (many : Nat))] S = .ok (.d (.bool (rowOk many (keyD q) row))) S := by
  have sz : sizeLine = 16777216 := sizeLine_eq
  refine sat_eq ?_
  unfold F_is_row
  walk_at "start"
  walk_at "g"
  cases row <;> walk_at "g"
  case tuple xs =>
    by_cases h3 : xs.length = 3
    · match xs, h3 with
      | [x, y, w], _ =>
        walk_at "g"
        cases x <;> walk_at "g"
        case str s =>
          cases y <;> walk_at "g"
          case tuple ns =>
            have hl := hv.items.tail.head.items.len
            simp only [eLc]
            walk_at "g"
            rw [cut2b]
            refine ⟨by simp; omega, ?_⟩
            rw [show (ns ++ [w]).map SV.d = ((ns ++ [w]).map fun d : PyData => d).map SV.d by simp, comp_map (enc := fun d : PyData => d) (ys := ns ++ [w]) (f := fun d => PyData.bool (wholeOk 0 ((many : Int) - 1) d)) (fun d hd => ⟨_, rfl, sat_eq (by
              simp only [wipeF]
              walk_at "g"
              rw [is_number_eq]
              walk_at "g")⟩) (by rw [sz]; simp; omega)]
            walk_at "g"
            rw [all_ok]
            walk_at "g"
            by_cases c : (ns ++ [w]).all (wholeOk 0 ((many : Int) - 1)) = true
            · rw [c]
              walk_at "g"
              obtain ⟨is, e⟩ := ints_of c
              have : ∃ js j, ns = List.map PyData.int js ∧ w = .int j := by
                obtain ⟨a, b, e1, e2, e3⟩ := List.map_eq_append_iff.mp e.symm
                obtain ⟨j, rfl⟩ : ∃ j, b = [j] := by
                  cases b with
                  | nil => simp at e3
                  | cons j r => cases r with
                    | nil => exact ⟨j, rfl⟩
                    | cons _ _ => simp at e3
                exact ⟨a, j, e2.symm, by simpa using e3.symm⟩
              obtain ⟨js, j, rfl, rfl⟩ := this
              rw [cut2a]
              simp only [keyD, tupD]
              simp only [PD.eqV]
              rw [if_pos]
              · walk_at "g"
                simp only [rowOk, c, Bool.true_and]
              · simp only [eqOk, Bool.or_eq_true, Bool.and_eq_true, decide_eq_true_eq]
                left
                refine ⟨⟨?_, ?_⟩, ?_⟩
                · simp only [PyData.canLay0, PyData.canLayAll0, lay_ints, Bool.and_true]
                  exact hv.items.head.canStr
                · simp only [PyData.canLay0, PyData.canLayAll0, lay_ints, Bool.and_true]
                  exact hq.tx.strOk
                · simp only [PyData.depth, PyData.depthAll, ints_depth]
                  decide
            · rw [Bool.eq_false_iff.mpr c]
              walk_at "g"
              simp [rowOk, Bool.eq_false_iff.mpr c]
          all_goals rfl
        all_goals rfl
    · rw [if_pos (by omega), row_len h3]
  all_goals rfl
theorem are_truths_eq (v : PyData) (S : Store) (hv : Wd k 1000000 v) : F_are_truths [.d v] S = .ok (.d (.bool (truthsOk v))) S := by
  have sz : sizeLine = 16777216 := sizeLine_eq
  refine sat_eq ?_
  unfold F_are_truths
  walk_at "start"
  walk_at "g"
  cases v <;> walk_at "g"
  case tuple ts =>
    have hl := hv.items.len
    by_cases l1 : 1 ≤ ts.length
    · by_cases l2 : ts.length ≤ 80
      · rw [if_pos (by omega), if_neg (by omega)]
        simp only [eLc]
        walk_at "g"
        rw [show ts.map SV.d = (ts.map fun d : PyData => d).map SV.d by simp, comp_map (enc := fun d : PyData => d) (ys := ts) (f := fun d => PyData.bool (isB d)) (fun d hd => ⟨_, rfl, sat_eq (by
          simp only [wipeF]
          walk_at "g"
          cases d <;> rfl)⟩) (by rw [sz]; simp; omega)]
        walk_at "g"
        rw [all_ok]
        walk_at "g"
        simp [truthsOk, l1, l2]
      · rw [if_pos (by omega), if_pos (by omega)]
        simp [truthsOk, l2]
    · rw [if_neg (by omega)]
      simp [truthsOk, l1]
  all_goals rfl
end
section
variable {k : Nat}
theorem judge_len {ps : List (Str × Int)} {xs : List PyData} (h : xs.length ≠ 2) : judgeOk ps (.tuple xs) = false := by
  match xs, h with
  | [], _ => rfl
  | [a], _ => cases a <;> rfl
  | [a, b], h => exact absurd rfl h
  | a :: b :: c :: r, _ => cases a <;> cases b <;> rfl
theorem cast_sum {α : Type} {f : α → Nat} : ∀ xs : List α, (xs.map fun x => ((f x : Nat) : Int)).sum = (((xs.map f).sum : Nat) : Int)
  | [] => rfl
  | x :: xs => by rw [List.map_cons, List.sum_cons, cast_sum xs, List.map_cons, List.sum_cons]; omega
theorem is_judge_eq (ps : List (Str × Int)) (v : PyData) (S : Store) (K : Shapes ps) (hv : Wd k 200000 v) : F_is_judge [.d (.tuple (ps.map pd)), .d v] S = .ok (.d (.bool (judgeOk ps v))) S := by
  have sz : sizeLine = 16777216 := sizeLine_eq
  refine sat_eq ?_
  unfold F_is_judge
  walk_at "start"
  walk_at "g"
  cases v <;> walk_at "g"
  case tuple xs =>
    by_cases h2 : xs.length = 2
    · match xs, h2 with
      | [t, r], hh =>
        walk_at "g"
        rw [are_truths_eq (k := k) t _ (hv.items.head.mono (Nat.le_refl _) (by decide))]
        walk_at "g"
        cases ht : truthsOk t with
        | false =>
          walk_at "g"
          cases t <;> cases r <;> first | rfl | simp [judgeOk, ht]
        | true =>
          walk_at "g"
          obtain ⟨ts, rfl⟩ : ∃ ts, t = .tuple ts := by cases t <;> simp [truthsOk] at ht; exact ⟨_, rfl⟩
          have hm : ts.length ≤ 80 := by simp [truthsOk] at ht; omega
          clear hh
          cases r <;> walk_at "g"
          case tuple rows =>
            have hr : Wds k 200000 rows := hv.items.tail.head.items
            simp only [eLc]
            walk_at "g"
            rw [comp_map (enc := pd) (ys := ps) (f := fun p => PyData.int (((ts.length ^ p.2.toNat : Nat)) : Int)) (fun p hp => ⟨_, rfl, sat_eq (by
              have hc := K.cnt p hp
              obtain ⟨s, c⟩ := p
              have : c = 0 ∨ c = 1 ∨ c = 2 := by simp at hc; omega
              simp only [wipeF]
              walk_at "g"
              refine ⟨.inl (by simp only [PD.small64, Bool.and_eq_true, decide_eq_true_eq]; omega), ?_⟩
              rcases this with rfl | rfl | rfl
              · walk_at "g"
                simp
              · walk_at "g"
                simp
              · walk_at "g"
                simp [Nat.pow_two])⟩) (by rw [sz]; have := K.len; simp; omega)]
            walk_at "g"
            rw [show (ps.map fun p => PyData.int (((ts.length ^ p.2.toNat : Nat)) : Int)) = (ps.map fun p => (((ts.length ^ p.2.toNat : Nat)) : Int)).map .int by rw [List.map_map]; rfl, sum_ok, cast_sum]
            walk_at "g"
            have e0 : (ps.map fun p => ts.length ^ p.2.toNat).sum = keyCount ps ts.length := rfl
            rw [e0]
            by_cases hk : rows.length = keyCount ps ts.length
            · rw [if_neg (by omega), keys_of_eq ps ts.length _ K hm]
              walk_at "g"
              simp only [zipV]
              walk_at "g"
              have hs : ∀ q ∈ rows.zip (sortedKeys ps ts.length), Wd k 200000 q.1 ∧ ∃ z, Sn z.1 ∧ q.2 = keyD z := fun q hq => by
                obtain ⟨h1, h2⟩ := List.of_mem_zip (show (q.1, q.2) ∈ _ from hq)
                obtain ⟨z, hz, e⟩ := sorted_mem h2
                obtain ⟨p, hp, e1, _⟩ := keysI_mem hz
                exact ⟨hr.mem h1, z, by rw [e1]; exact K.sn p hp, e⟩
              rw [show ((rows.zip (sortedKeys ps ts.length)).map fun p => SV.d (.tuple [p.1, p.2])) = ((rows.zip (sortedKeys ps ts.length)).map fun p => PyData.tuple [p.1, p.2]).map SV.d by rw [List.map_map]; rfl,
                comp_map (enc := fun p : PyData × PyData => PyData.tuple [p.1, p.2]) (f := fun q => PyData.bool (rowOk ts.length q.2 q.1)) (fun q hq => ⟨_, rfl, sat_eq (by
                  obtain ⟨w, z, hz, e⟩ := hs q hq
                  obtain ⟨a, b⟩ := q
                  simp only at e w
                  subst e
                  simp only [wipeF]
                  walk_at "g"
                  rw [is_row_eq (k := k) a z ts.length _ (w.mono (Nat.le_refl _) (by decide)) hz]
                  walk_at "g")⟩) (by rw [sz]; have := hr.len; simp; omega)]
              walk_at "g"
              rw [all_ok]
              walk_at "g"
              simp [judgeOk, ht, hk]
            · rw [if_pos (by omega)]
              simp [judgeOk, hk]
          all_goals rfl
    · rw [if_pos (by omega), judge_len h2]
  all_goals rfl
end
def shapeRow (many : Nat) : PyData → Bool
  | .tuple [_, .tuple ns, w] => (ns ++ [w]).all (wholeOk 0 ((many : Int) - 1))
  | _ => false
theorem shape_len {many : Nat} {xs : List PyData} (h : xs.length ≠ 3) : shapeRow many (.tuple xs) = false := by
  match xs, h with
  | [], _ => rfl
  | [a], _ => rfl
  | [a, b], _ => cases b <;> rfl
  | [a, b, c], h => exact absurd rfl h
  | a :: b :: c :: d :: r, _ => cases b <;> rfl
def cutRow : PyData → PyData
  | .tuple xs => .tuple (cutD xs none (some 2))
  | d => d
theorem shape_of {many : Nat} {row : PyData} (h : shapeRow many row = true) : ∃ (x : PyData) (is : List Int) (j : Int), row = .tuple [x, .tuple (is.map .int), .int j] ∧ cutRow row = .tuple [x, .tuple (is.map .int)] := by
  match row, h with
  | .tuple [x, .tuple ns, w], h =>
    obtain ⟨is, e⟩ := ints_of (ns := ns ++ [w]) h
    obtain ⟨a, b, e1, e2, e3⟩ := List.map_eq_append_iff.mp e.symm
    obtain ⟨j, rfl⟩ : ∃ j, b = [j] := by
      cases b with
      | nil => simp at e3
      | cons j r => cases r with
        | nil => exact ⟨j, rfl⟩
        | cons _ _ => simp at e3
    have ew : w = .int j := by simpa using e3.symm
    subst e2 ew
    exact ⟨x, a, j, rfl, rfl⟩
theorem ints_keys : ∀ is : List Int, toKeys (is.map .int) = some (is.map .num)
  | [] => rfl
  | i :: is => by
    rw [List.map_cons, toKeys, ints_keys is]
    rfl
theorem row_iff {many : Nat} {row : PyData} {z : Str × List Int} (h : shapeRow many row = true) : rowOk many (keyD z) row = true ↔ cutRow row = keyD z := by
  obtain ⟨x, is, j, rfl, e⟩ := shape_of h
  rw [e]
  have kz : toKey (keyD z) = some (.tup [.text z.1, .tup (z.2.map .num)]) := by
    simp only [keyD, tupD, toKey, toKeys, ints_keys]
    rfl
  cases x with
  | str s =>
    have ks : toKey (.tuple [.str s, .tuple (is.map .int)]) = some (.tup [.text s, .tup (is.map .num)]) := by
      simp only [toKey, toKeys, ints_keys]
      rfl
    simp only [rowOk]
    rw [show ((is.map PyData.int ++ [PyData.int j]).all (wholeOk 0 ((many : Int) - 1))) = true from h, Bool.true_and]
    exact eqv_key ks kz
  | _ => simp [rowOk, keyD]
theorem zip_all_iff {α β : Type} {r : β → α → Bool} {f : α → β} : ∀ {xs : List α} {ys : List β}, xs.length = ys.length → (∀ x ∈ xs, ∀ y ∈ ys, (r y x = true ↔ f x = y)) → ((xs.zip ys).all (fun q => r q.2 q.1) = true ↔ xs.map f = ys)
  | [], [], _, _ => by simp
  | [], _ :: _, h, _ => by simp at h
  | _ :: _, [], h, _ => by simp at h
  | x :: xs, y :: ys, h, k => by
    rw [List.zip_cons_cons, List.all_cons, Bool.and_eq_true, zip_all_iff (f := f) (by simpa using h) (fun a ha b hb => k a (by simp [ha]) b (by simp [hb])), k x (by simp) y (by simp), List.map_cons, List.cons.injEq]
theorem wds_map {k n : Nat} {f : PyData → PyData} : ∀ {ds : List PyData}, (∀ d ∈ ds, wt (f d) ≤ wt d ∧ (f d).depth ≤ d.depth ∧ (fine d → fine (f d))) → Wds k n ds → Wds k n (ds.map f) := by
  intro ds h w
  have all : wts (ds.map f) ≤ wts ds ∧ PyData.depthAll (ds.map f) ≤ PyData.depthAll ds ∧ (fines ds → fines (ds.map f)) := by
    clear w
    induction ds with
    | nil => simp
    | cons d ds ih =>
      obtain ⟨a, b, c⟩ := h d (by simp)
      obtain ⟨x, y, z⟩ := ih fun e he => h e (by simp [he])
      simp only [List.map_cons, wts, PyData.depthAll, fines]
      exact ⟨by omega, by omega, fun ⟨p, q⟩ => ⟨c p, z q⟩⟩
  exact ⟨all.2.2 w.ok, Nat.le_trans all.2.1 w.dp, Nat.le_trans all.1 w.ln⟩
theorem cut_less {many : Nat} {row : PyData} (h : shapeRow many row = true) : wt (cutRow row) ≤ wt row ∧ (cutRow row).depth ≤ row.depth ∧ (fine row → fine (cutRow row)) := by
  obtain ⟨x, is, j, rfl, e⟩ := shape_of h
  rw [e]
  simp only [wt, wts, PyData.depth, PyData.depthAll, fine, fines]
  exact ⟨by omega, by omega, fun h => ⟨h.1, h.2.1, trivial⟩⟩
theorem keyD_wd {z : Str × List Int} (hs : Sn z.1) (hl : z.2.length ≤ 2) (hi : ∀ i ∈ z.2, 0 ≤ i ∧ i < 80) : Wd 2 110 (keyD z) :=
  Wd.t2 (k := 1) (a := 82) (b := 15) (Wd.str hs.tx (by decide)) (Wd.tmap (k := 0) (a := 4) (fun i h => Wd.small (by have := hi i h; omega)) 2 hl (by decide)) (by decide)
theorem sn_low {s : Str} (h : Sn s) : lowS s := h.1.2
theorem keyD_ky {z : Str × List Int} (hs : Sn z.1) : Ky (keyD z) := .tup fun x hx => by
  simp only [List.mem_cons, List.not_mem_nil, or_false] at hx
  rcases hx with rfl | rfl
  · exact .str (sn_low hs)
  · exact .tup fun y hy => by
      obtain ⟨i, _, rfl⟩ := List.mem_map.mp hy
      exact .int i
theorem law_whole_eq (v : PyData) (m : Int) (S : Store) : F__law_whole [.d v, .d (.int m)] S = .ok (.d (.bool (wholeOk 0 (m - 1) v))) S := by
  refine sat_eq ?_
  unfold F__law_whole
  walk_at "start"
  walk_at "g"
  cases v <;> walk_at "g"
  all_goals first | rfl | (split <;> simp_all [wholeOk] <;> omega)
theorem low_items {xs : List PyData} (h : lowD (.tuple xs)) : ∀ x ∈ xs, lowD x := lowDs_all.mp h
section
variable {k : Nat}
theorem law_is_judge_eq (ps : List (Str × Int)) (v : PyData) (S : Store) (K : Shapes ps) (hv : Wd k 200000 v) (hk : k ≤ 100) (lv : lowD v) : F__law_is_judge [.d (.tuple (ps.map pd)), .d v] S = .ok (.d (.bool (judgeOk ps v))) S := by
  have sz : sizeLine = 16777216 := sizeLine_eq
  refine sat_eq ?_
  unfold F__law_is_judge
  walk_at "start"
  walk_at "g"
  cases v <;> walk_at "g"
  case tuple xs =>
    by_cases h2 : xs.length = 2
    · match xs, h2 with
      | [t, r], hh =>
        clear hh
        walk_at "g"
        cases t <;> walk_at "g"
        case tuple ts =>
          have hts := hv.items.head.items.len
          have tr : truthsOk (.tuple ts) = (decide (1 ≤ ts.length) && decide (ts.length ≤ 80) && ts.all isB) := rfl
          have nt : truthsOk (.tuple ts) = false → judgeOk ps (.tuple [.tuple ts, r]) = false := fun h => by cases r <;> simp [judgeOk, h]
          by_cases l1 : 1 ≤ ts.length
          case neg =>
            rw [if_neg (by omega), nt (by rw [tr]; simp [l1])]
          case pos =>
            by_cases l2 : ts.length ≤ 80
            case neg =>
              rw [if_pos (by omega), if_pos (by omega), nt (by rw [tr]; simp [l2])]
            case pos =>
              rw [if_pos (by omega), if_neg (by omega)]
              simp only [eLc]
              walk_at "g"
              rw [show ts.map SV.d = (ts.map fun d : PyData => d).map SV.d by simp, comp_map (enc := fun d : PyData => d) (ys := ts) (f := fun d => PyData.bool (isB d)) (fun d hd => ⟨_, rfl, sat_eq (by
                simp only [wipeF]
                walk_at "g"
                cases d <;> rfl)⟩) (by rw [sz]; simp; omega)]
              walk_at "g"
              rw [all_ok]
              walk_at "g"
              by_cases c : ts.all isB = true
              case neg =>
                rw [Bool.eq_false_iff.mpr c]
                walk_at "g"
                rw [nt (by rw [tr, Bool.eq_false_iff.mpr c]; simp)]
              case pos =>
                rw [c]
                walk_at "g"
                have ht : truthsOk (.tuple ts) = true := by rw [tr, c]; simp [l1, l2]
                have cl := count_le (many := ts.length) K l2
                rw [show (ps.map pd).map SV.d = ps.map fun p => SV.d (pd p) by rw [List.map_map]; rfl]
                refine ssat_each (enc := fun p => SV.d (pd p)) (fun done fr S' => S' = S ∧ ∃ x5 x6 x9, fr = [some (.d (.tuple (ps.map pd))), some (.d (.tuple [.tuple ts, r])), some (.d (.tuple ts)), some (.d r), some (.d (.list (done.flatMap fun p => (tupsI ts.length p.2.toNat).map fun r => PyData.tuple [.str p.1, tupD r]))), x5, x6, none, none, x9, none]) ⟨rfl, _, _, _, rfl⟩ (fun done y more e fr S' ⟨e1, x5, x6, x9, e2⟩ => ?_) fun fr S' ⟨e1, x5, x6, x9, e2⟩ => ?_
                · subst e1 e2
                  have hy := K.cnt y (by rw [e]; simp)
                  have dl := done_le (many := ts.length) e
                  obtain ⟨s, c⟩ := y
                  obtain ⟨c, rfl⟩ : ∃ k : Nat, c = k := ⟨c.toNat, by simp at hy; omega⟩
                  simp at hy
                  simp only [Int.toNat_natCast] at dl
                  refine ⟨_, rfl, ?_⟩
                  walk_at "g"
                  simp only [eLc]
                  walk_at "g"
                  rw [law_tuples_eq ts.length c _ l2 (by omega)]
                  walk_at "g"
                  have pl := pow_le (many := ts.length) (c := c) l2 (by omega)
                  rw [comp_map (enc := tupD) (f := fun r => PyData.tuple [.str s, tupD r]) (fun r hr => ⟨_, rfl, sat_eq (by
                    simp only [wipeF]
                    walk_at "g")⟩) (by rw [tupsI_len, sz]; simp; omega)]
                  walk_at "g"
                  refine ⟨by rw [List.length_map, tupsI_len]; omega, _, _, _, by rw [List.flatMap_append, List.flatMap_cons, List.flatMap_nil, List.append_nil]; rfl⟩
                · subst e1 e2
                  walk_at "g"
                  rw [keys_map]
                  cases r <;> walk_at "g"
                  case tuple rows hh3 =>
                    rw [List.length_map, keysI_len]
                    have hr : Wds k 200000 rows := hv.items.tail.head.items
                    have hrl := hr.len
                    by_cases hc : rows.length = keyCount ps ts.length
                    case neg =>
                      rw [if_pos (by omega)]
                      simp [judgeOk, hc]
                    case pos =>
                      rw [if_neg (by omega)]
                      have hlow : ∀ x ∈ rows, lowD x := low_items (low_items lv (.tuple rows) (by simp))
                      refine ssat_search (enc := .d) (fun d => if shapeRow ts.length d = true then none else some (.d (.bool false))) (fun fr => ∃ x7 x10, fr = [some (.d (.tuple (ps.map pd))), some (.d (.tuple [.tuple ts, .tuple rows])), some (.d (.tuple ts)), some (.d (.tuple rows)), some (.d (.list ((keysI ps ts.length).map keyD))), x5, x6, x7, none, x9, x10]) (fun d hd fr ⟨x7, x10, e⟩ => ?_) ⟨_, _, rfl⟩ (fun h fr ⟨x7, x10, e⟩ => ?_) fun w h => ?_
                      · subst e
                        refine ⟨_, rfl, ?_⟩
                        walk_at "g"
                        cases d <;> walk_at "g"
                        case tuple xs =>
                          by_cases h3 : xs.length = 3
                          · match xs, h3, hd with
                            | [x, y, w], _, hd =>
                              walk_at "g"
                              cases y <;> walk_at "g"
                              case tuple ns hh4 =>
                                have hl := (hr.mem hd).items.tail.head.items.len
                                simp only [eLc]
                                walk_at "g"
                                rw [cut2b]
                                refine ⟨by simp; omega, ?_⟩
                                rw [show (ns ++ [w]).map SV.d = ((ns ++ [w]).map fun d : PyData => d).map SV.d by simp, comp_map (enc := fun d : PyData => d) (ys := ns ++ [w]) (f := fun d => PyData.bool (wholeOk 0 ((ts.length : Int) - 1) d)) (fun d hd => ⟨_, rfl, sat_eq (by
                                  simp only [wipeF]
                                  walk_at "g"
                                  rw [law_whole_eq]
                                  walk_at "g")⟩) (by rw [sz]; simp; omega)]
                                walk_at "g"
                                rw [all_ok]
                                walk_at "g"
                                have es : shapeRow ts.length (.tuple [x, .tuple ns, w]) = (ns ++ [w]).all (wholeOk 0 ((ts.length : Int) - 1)) := rfl
                                rw [es]
                                cases hq : (ns ++ [w]).all (wholeOk 0 ((ts.length : Int) - 1)) with
                                | true =>
                                  walk_at "g"
                                  exact ⟨_, _, rfl⟩
                                | false =>
                                  walk_at "g"
                              all_goals rfl
                          · rw [if_pos (by omega), shape_len h3]
                            rfl
                        all_goals rfl
                      · subst e
                        have hsh : ∀ d ∈ rows, shapeRow ts.length d = true := fun d hd => by
                          have := (findSome_none.mp h) d hd
                          by_cases c : shapeRow ts.length d = true
                          · exact c
                          · rw [if_neg c] at this; cases this
                        walk_at "g"
                        rw [show rows.map SV.d = (rows.map fun d : PyData => d).map SV.d by simp, comp_map (enc := fun d : PyData => d) (ys := rows) (f := cutRow) (fun d hd => ⟨_, rfl, sat_eq (by
                          obtain ⟨x, is, j, rfl, e⟩ := shape_of (hsh d hd)
                          rw [e]
                          simp only [wipeF]
                          walk_at "g"
                          rfl)⟩) (by rw [sz]; simp; omega)]
                        walk_at "g"
                        have w1 : Wd (k + 1) (200000 + 3) (.list (rows.map cutRow)) := Wd.lst (wds_map (fun d hd => cut_less (hsh d hd)) hr)
                        rw [w1.repr]
                        try walk_at "g"
                        simp only [sortV]
                        rw [keys_sort _ (by rw [keysI_len]; omega), if_pos rfl]
                        walk_at "g"
                        have kw : ∀ d ∈ sortedKeys ps ts.length, Wd 2 110 d ∧ Ky d := fun d hd => by
                          obtain ⟨z, hz, rfl⟩ := sorted_mem hd
                          obtain ⟨p, hp, e1, e2, e3⟩ := keysI_mem hz
                          have hs : Sn z.1 := by rw [e1]; exact K.sn p hp
                          have hc := K.cnt p hp
                          exact ⟨keyD_wd hs (by omega) fun i hi => by have := e3 i hi; omega, keyD_ky hs⟩
                        have w2 : Wd 3 (11200000 + 3) (.list (sortedKeys ps ts.length)) := Wd.lst ((Wds.of fun d hd => (kw d hd).1).mono (Nat.le_refl _) (by rw [sorted_len]; omega))
                        have e0 : dsort ((keysI ps ts.length).map keyD) = sortedKeys ps ts.length := rfl
                        rw [e0, w2.repr]
                        walk_at "g"
                        have e1 := shown_list (ds := sortedKeys ps ts.length) (es := rows.map cutRow) (fun d hd => (kw d hd).2) (fun d hd => by
                          obtain ⟨x, hx, rfl⟩ := List.mem_map.mp hd
                          obtain ⟨y, is, j, rfl, e⟩ := shape_of (hsh x hx)
                          have := hlow _ hx
                          rw [e]
                          exact ⟨this.1, this.2.1, trivial⟩)
                        have e2 := zip_all_iff (r := rowOk ts.length) (f := cutRow) (xs := rows) (ys := sortedKeys ps ts.length) (by rw [sorted_len, hc]) (fun x hx y hy => by
                          obtain ⟨z, _, rfl⟩ := sorted_mem hy
                          exact row_iff (hsh x hx))
                        have e3 : judgeOk ps (.tuple [.tuple ts, .tuple rows]) = (rows.zip (sortedKeys ps ts.length)).all fun q => rowOk ts.length q.2 q.1 := by simp only [judgeOk, ht, hc, decide_true, Bool.true_and]
                        rw [e3]
                        by_cases c : rows.map cutRow = sortedKeys ps ts.length
                        · rw [e2.mpr c, e1.mpr c]
                          simp
                        · rw [Bool.eq_false_iff.mpr fun z => c (e2.mp z)]
                          simp
                          exact fun z => c (e1.mp z)
                      · obtain ⟨x, hx, h2⟩ := List.exists_of_findSome?_eq_some h
                        by_cases c : shapeRow ts.length x = true
                        · rw [if_pos c] at h2
                          cases h2
                        · rw [if_neg c] at h2
                          cases h2
                          obtain ⟨i, hi, e⟩ := List.mem_iff_getElem.mp hx
                          have hi2 : i < (sortedKeys ps ts.length).length := by rw [sorted_len]; omega
                          have mz : (x, (sortedKeys ps ts.length)[i]) ∈ rows.zip (sortedKeys ps ts.length) := by
                            rw [List.mem_iff_getElem]
                            exact ⟨i, by simp; omega, by simp [e]⟩
                          have : judgeOk ps (.tuple [.tuple ts, .tuple rows]) = false := by
                            simp only [judgeOk, ht, hc, decide_true, Bool.true_and]
                            rw [List.all_eq_false]
                            refine ⟨_, mz, ?_⟩
                            intro z
                            apply c
                            simp only at z
                            revert z
                            generalize (sortedKeys ps ts.length)[i] = key
                            intro z
                            match x, z with
                            | .tuple [.str a, .tuple ns, w], z =>
                              simp only [rowOk, Bool.and_eq_true] at z
                              exact z.1
                          rw [this]
                          exact ⟨rfl, rfl⟩
                  all_goals rfl
        all_goals (cases r <;> rfl)
    · rw [if_pos (by omega), judge_len h2]
  all_goals rfl
end
section
variable {rest : Store} {n : Int} {S : Store}
theorem low_app {xs ys : List PyData} (h : lowDs xs) (h' : lowDs ys) : lowDs (xs ++ ys) := lowDs_all.mpr fun d hd => (List.mem_append.mp hd).elim (lowDs_all.mp h d) (lowDs_all.mp h' d)
theorem low_sub {xs ys : List PyData} (h : lowDs xs) (s : ∀ d ∈ ys, d ∈ xs) : lowDs ys := lowDs_all.mpr fun d hd => lowDs_all.mp h d (s d hd)
theorem low_lit : lowS (Str.ofString "end") := by
  intro c hc
  rw [cp_of] at hc
  revert c
  decide
theorem odd_ok (D : Deck rest n S) (hn : n ≤ 1000000000000) :
    (F__law_odd [.obj 1] S).sat (fun v S' => ∃ d, v = .d d ∧ Wd 3 4000 d ∧ lowD d ∧ Deck rest (n + 1) S') NoX := by
  unfold F__law_odd
  walk_at "start"
  walk_at "g"
  repeat refine And.intro (by decide) ?_
  refine (one_list D (by omega) (by simp) (by simp)).on fun v S ⟨d, hd, e, D⟩ => ?_
  refine ⟨d, e, ?_, ?_, D⟩
  · simp only [List.mem_cons, List.not_mem_nil, or_false] at hd
    repeat' (rcases hd with hd | hd)
    all_goals first | walk_at "wd" | (exact Wd.int (m := 30) (by decide +kernel))
  · simp only [List.mem_cons, List.not_mem_nil, or_false] at hd
    repeat' (rcases hd with hd | hd)
    all_goals first | trivial | exact low_lit | exact ⟨trivial, trivial⟩ | exact ⟨low_lit, trivial, trivial, trivial⟩ | rfl
theorem wts_at {xs : List PyData} {i : Nat} (h : i < xs.length) : wts (xs.take i) + wt xs[i] + 2 + wts (xs.drop (i + 1)) = wts xs := by
  have e : xs = xs.take i ++ xs[i] :: xs.drop (i + 1) := by rw [← List.drop_eq_getElem_cons h, List.take_append_drop]
  have := congrArg wts e
  rw [wts_app] at this
  simp only [wts] at this
  omega
theorem cut_one {xs : List PyData} {i : Nat} (h : i < xs.length) : PD.cutD xs (some ((i : Nat) : Int)) (some ((i + 1 : Nat) : Int)) = [xs[i]] := by
  unfold PD.cutD
  have e1 : HT.sIx xs.length 0 (some ((i : Nat) : Int)) = i := by
    simp only [HT.sIx]
    first | omega | (split <;> omega) | (simp; omega)
  have e2 : HT.sIx xs.length xs.length (some ((i + 1 : Nat) : Int)) = i + 1 := by
    simp only [HT.sIx]
    first | omega | (split <;> omega) | (simp; omega)
  rw [e1, e2, show i + 1 - i = 1 by omega, List.drop_eq_getElem_cons h]
  rfl
theorem wds_rev {k m : Nat} : ∀ {ds : List PyData}, Wds k m ds → Wds k m ds.reverse := by
  intro ds w
  have all : wts ds.reverse = wts ds ∧ PyData.depthAll ds.reverse = PyData.depthAll ds ∧ (fines ds → fines ds.reverse) := by
    clear w
    induction ds with
    | nil => simp
    | cons d ds ih =>
      obtain ⟨a, b, c⟩ := ih
      rw [List.reverse_cons, wts_app, depthAll_app, a, b]
      simp only [wts, PyData.depthAll]
      exact ⟨by omega, by omega, fun h => (fines_app).mpr ⟨c h.2, h.1, trivial⟩⟩
  exact ⟨all.2.2 w.ok, by rw [all.2.1]; exact w.dp, by rw [all.1]; exact w.ln⟩
theorem bent_ok : ∀ (m : Nat) (dep : Int) (v : PyData) (k w : Nat) (n : Int) (S : Store), Deck rest n S → n + 4 * m ≤ 1000000000000 → 0 ≤ dep → dep < m → Wd k w v → w ≤ 900000 → lowD v →
    (F__law_bent m [.obj 1, .d v, .d (.int dep)] S).sat (fun v S' => ∃ d, v = .d d ∧ Wd (k + 3) (2 * w + 4100) d ∧ lowD d ∧ Deck rest (n + 4 * m) S') NoX
  | 0, dep, v, k, w, n, S, D, hn, h0, h1, hv, hw, lv => by omega
  | m + 1, dep, v, k, w, n, S, D, hn, h0, h1, hv, hw, lv => by
    have sz : sizeLine = 16777216 := sizeLine_eq
    have odd : ∀ (S : Store) (n' : Int), Deck rest n' S → n' ≤ n + 3 → (F__law_odd [.obj 1] S).sat (fun v S' => ∃ d, v = .d d ∧ Wd (k + 3) (2 * w + 4100) d ∧ lowD d ∧ Deck rest (n + 4 * (m + 1 : Nat)) S') NoX := fun S n' D hn' =>
      (odd_ok D (by omega)).on fun v S ⟨d, e, hd, ld, D⟩ => ⟨d, e, hd.mono (by omega) (by omega), ld, D.mono (by omega)⟩
    unfold F__law_bent
    walk_at "start"
    walk_at "g"
    by_cases d0 : dep = 0
    · rw [if_pos d0]
      exact odd S n D (by omega)
    · rw [if_neg d0]
      cases v with
      | tuple xs =>
        rw [if_neg (by simp)]
        rw [eqV_nilT]
        walk_at "g"
        by_cases xe : xs.isEmpty = true
        · rw [if_pos xe]
          exact odd S n D (by omega)
        · rw [if_neg xe]
          have xl : 0 < xs.length := by
            cases xs with
            | nil => exact absurd rfl xe
            | cons _ _ => simp
          have lx : lowDs xs := lv
          have ws : Wds k w xs := hv.items
          have hl2 : 2 * xs.length ≤ w := ws.len
          refine (draw_ok D (by omega) (by decide) (by decide)).on fun v S ⟨q, e, q0, q1, D⟩ => ?_
          subst e
          walk_at "g"
          by_cases z : q = 0
          · rw [if_pos z]
            exact odd S _ D (by omega)
          · rw [if_neg z]
            refine (draw_ok D (by omega) (by omega) (by omega)).on fun v S ⟨i, e, i0, i1, D⟩ => ?_
            subst e
            obtain ⟨i, rfl⟩ : ∃ j : Nat, i = j := ⟨i.toNat, by omega⟩
            have il : i < xs.length := by omega
            walk_at "g"
            refine (draw_ok D (by omega) (by decide) (by decide)).on fun v S ⟨y, e, y0, y1, D⟩ => ?_
            subst e
            have e1 : ∀ i : Nat, (((i : Nat) : Int) + 1) = ((i + 1 : Nat) : Int) := fun _ => rfl
            have lt : (xs.take i).length ≤ xs.length := by rw [List.length_take]; omega
            have ld : (xs.drop (i + 1)).length ≤ xs.length := by rw [List.length_drop]; omega
            have ld0 : (xs.drop i).length ≤ xs.length := by rw [List.length_drop]; omega
            have lt2 : lowDs (xs.take i) := low_sub lx fun d hd => List.mem_of_mem_take hd
            have ldd : ∀ j, lowDs (xs.drop j) := fun j => low_sub lx fun d hd => List.mem_of_mem_drop hd
            walk_at "g"
            simp only [e1, cut_take, cut_drop]
            have d1 : PyData.depthAll xs + 1 ≤ k := by have := hv.dp; simpa [PyData.depth] using this
            have wl : wts xs + 3 ≤ w := by have := hv.ln; simp only [wt] at this; omega
            have ws1 : Wds (k - 1) (wts xs) xs := ⟨hv.ok, by omega, Nat.le_refl _⟩
            have at_ := wts_at il
            have tk : wts (xs.take i) ≤ wts xs := by omega
            have dk : wts (xs.drop i) ≤ wts xs := by
              have e := wts_app (xs.take i) (xs.drop i)
              rw [List.take_append_drop] at e
              omega
            have lxi : lowD xs[i] := lowDs_all.mp lx _ (List.getElem_mem il)
            by_cases y0' : y = 0
            · rw [if_pos y0']
              refine ⟨by omega, _, rfl, ?_, low_app lt2 (ldd _), D.mono (by omega)⟩
              exact (Wd.tup ((ws1.take i).app (ws1.drop (i + 1)))).mono (by omega) (by omega)
            · rw [if_neg y0']
              by_cases y1' : y = 1
              · rw [if_pos y1']
                have lcut := cutD_len xs (some ((i : Nat) : Int)) (some ((i + 1 : Nat) : Int))
                refine ⟨by omega, by omega, _, rfl, ?_, ?_, D.mono (by omega)⟩
                · rw [cut_one il]
                  have wx : Wd (k - 1) (wt xs[i]) xs[i] := by
                    have := ws1.mem (List.getElem_mem il)
                    exact ⟨this.ok, this.dp, Nat.le_refl _⟩
                  have wA : Wds (k - 1) (wts (xs.take i)) (xs.take i) := ⟨(ws1.take i).ok, (ws1.take i).dp, Nat.le_refl _⟩
                  have wB : Wds (k - 1) (wts (xs.drop i)) (xs.drop i) := ⟨(ws1.drop i).ok, (ws1.drop i).dp, Nat.le_refl _⟩
                  have e := wts_app (xs.take i) (xs.drop i)
                  rw [List.take_append_drop] at e
                  exact (Wd.tup ((wA.app (Wds.cons wx (Wds.nil (n := 0)))).app wB)).mono (by omega) (by omega)
                · rw [cut_one il]
                  exact low_app (low_app lt2 ⟨lxi, trivial⟩) (ldd _)
              · rw [if_neg y1']
                by_cases y2' : y = 2
                · rw [if_pos y2']
                  exact ⟨_, rfl, (Wd.tup (wds_rev ws1)).mono (by omega) (by omega), low_sub lx (fun d hd => List.mem_reverse.mp hd), D.mono (by omega)⟩
                · rw [if_neg y2']
                  by_cases y3' : y = 3
                  · rw [if_pos y3']
                    exact ⟨_, rfl, (Wd.lst ws1).mono (by omega) (by omega), lx, D.mono (by omega)⟩
                  · rw [if_neg y3']
                    rw [ix_get (by omega) (by omega)]
                    have ge : xs[((i : Nat) : Int).toNat]'(by omega) = xs[i] := rfl
                    rw [ge]
                    walk_at "g"
                    have wx : Wd (k - 1) (wt xs[i]) xs[i] := by
                      have := ws1.mem (List.getElem_mem il)
                      exact ⟨this.ok, this.dp, Nat.le_refl _⟩
                    refine (bent_ok m (dep - 1) xs[i] (k - 1) (wt xs[i]) _ S D (by omega) (by omega) (by omega) wx (by omega) lxi).on fun v S ⟨d, e, wd, ld, D⟩ => ?_
                    subst e
                    walk_at "g"
                    refine ⟨by omega, by omega, _, rfl, ?_, low_app (low_app lt2 ⟨ld, trivial⟩) (ldd _), D.mono (by omega)⟩
                    have wA := ws1.take i
                    have wB := ws1.drop (i + 1)
                    have wA' : Wds (k + 2) (wts (xs.take i)) (xs.take i) := ⟨wA.ok, by have := wA.dp; omega, Nat.le_refl _⟩
                    have wB' : Wds (k + 2) (wts (xs.drop (i + 1))) (xs.drop (i + 1)) := ⟨wB.ok, by have := wB.dp; omega, Nat.le_refl _⟩
                    exact (Wd.tup ((wA'.app (Wds.cons (wd.mono (k' := k + 2) (by omega) (Nat.le_refl _)) (Wds.nil (n := 0)))).app wB')).mono (Nat.le_refl _) (by omega)
      | _ =>
        rw [if_pos rfl]
        exact odd S n D (by omega)
end
section
variable {rest : Store} {n : Int} {S : Store}
def rowD3 (q : (Str × List Int) × Int) : PyData := .tuple [.str q.1.1, tupD q.1.2, .int q.2]
theorem rows_sort (qs : List ((Str × List Int) × Int)) (hl : qs.length ≤ sizeLine) : sortOk (qs.map rowD3) = true := by
  simp only [sortOk, Bool.and_eq_true, Bool.or_eq_true, List.all_eq_true, decide_eq_true_eq, List.length_map]
  refine ⟨⟨⟨alikeL_of fun d hd e he => ?_, hl⟩, fun d hd => ?_⟩, .inl fun d hd => ?_⟩
  · obtain ⟨p, _, rfl⟩ := List.mem_map.mp hd
    obtain ⟨q, _, rfl⟩ := List.mem_map.mp he
    simp only [rowD3, tupD, PySem.W.alike, PySem.W.alikeAll, ints_alike, Bool.and_self]
  · obtain ⟨p, _, rfl⟩ := List.mem_map.mp hd
    simp only [rowD3, tupD, PyData.depth, PyData.depthAll, ints_depth]
    decide
  · obtain ⟨p, _, rfl⟩ := List.mem_map.mp hd
    rfl
theorem row3_ok {q : (Str × List Int) × Int} (hs : Sn q.1.1) (hl : q.1.2.length ≤ 2) (hi : ∀ i ∈ q.1.2, 0 ≤ i ∧ i < 80) (h2 : 0 ≤ q.2 ∧ q.2 < 80) : Wd 2 110 (rowD3 q) ∧ lowD (rowD3 q) :=
  ⟨Wd.t3 (k := 1) (a := 82) (b := 15) (c := 4) (Wd.str hs.tx (by decide)) (Wd.tmap (k := 0) (a := 4) (fun i h => Wd.small (by have := hi i h; omega)) 2 hl (by decide)) (Wd.small (by omega)) (by decide),
    sn_low hs, lowDs_all.mpr (fun d hd => by obtain ⟨i, _, rfl⟩ := List.mem_map.mp hd; trivial), trivial, trivial⟩
theorem law_judge_ok {ps : List (Str × Int)} {many : Nat} (D : Deck rest n S) (hn : n ≤ 900000000) (K : Shapes ps) (l22 : ps.length ≤ 22) (m1 : 1 ≤ many) (m4 : many ≤ 4) :
    (F__law_judge [.obj 1, .d (.tuple (ps.map pd)), .d (.int (many : Nat))] S).sat (fun v S' => ∃ ts rows, v = .d (.tuple [.tuple ts, .tuple rows]) ∧ Wds 4 40 ts ∧ Wds 4 44000 rows ∧ lowDs ts ∧ lowDs rows ∧ Deck rest (n + 1000) S') NoX := by
  have sz : sizeLine = 16777216 := sizeLine_eq
  have p16 : ∀ c : Nat, c ≤ 2 → many ^ c ≤ 16 := fun c hc => by
    match c, hc with
    | 0, _ => simp
    | 1, _ => simp; omega
    | 2, _ => rw [Nat.pow_two]; exact Nat.mul_le_mul m4 m4
  unfold F__law_judge
  walk_at "start"
  walk_at "g"
  rw [show (ps.map pd).map SV.d = ps.map fun p => SV.d (pd p) by rw [List.map_map]; rfl]
  refine ssat_each (enc := fun p => SV.d (pd p)) (fun done fr S => ∃ x4 x5 x6 qs, fr = [some (.obj 1), some (.d (.tuple (ps.map pd))), some (.d (.int (many : Nat))), some (.d (.list (qs.map rowD3))), x4, x5, x6, none] ∧ qs.length ≤ 16 * done.length ∧ (∀ q ∈ qs, Sn q.1.1 ∧ q.1.2.length ≤ 2 ∧ (∀ i ∈ q.1.2, 0 ≤ i ∧ i < 80) ∧ 0 ≤ q.2 ∧ q.2 < 80) ∧ Deck rest (n + 20 * (done.length : Nat)) S)
    ⟨_, _, _, [], rfl, by simp, by simp, by simpa using D⟩ (fun done y more e fr S ⟨x4, x5, x6, qs, e2, ql, qh, D⟩ => ?_) fun fr S ⟨x4, x5, x6, qs, e2, ql, qh, D⟩ => ?_
  · subst e2
    have hy := K.cnt y (by rw [e]; simp)
    have hs := K.sn y (by rw [e]; simp)
    have dl : done.length < ps.length := by rw [e]; simp
    obtain ⟨s, c⟩ := y
    obtain ⟨c, rfl⟩ : ∃ k : Nat, c = k := ⟨c.toNat, by simp at hy; omega⟩
    simp at hy hs
    refine ⟨_, rfl, ?_⟩
    walk_at "g"
    simp only [eLc]
    walk_at "g"
    rw [law_tuples_eq many c _ (by omega) (by omega)]
    walk_at "g"
    have pc := p16 c (by omega)
    refine sat_each (enc := tupD) (fun d2 S acc => ∃ rs : List ((Str × List Int) × Int), acc = rs.map rowD3 ∧ rs.length = d2.length ∧ (∀ q ∈ rs, Sn q.1.1 ∧ q.1.2.length ≤ 2 ∧ (∀ i ∈ q.1.2, 0 ≤ i ∧ i < 80) ∧ 0 ≤ q.2 ∧ q.2 < 80) ∧ Deck rest (n + 20 * (done.length : Nat) + (d2.length : Nat)) S) ⟨[], rfl, rfl, by simp, by simpa using D⟩ (fun d2 r more2 S acc e2 al ⟨rs, ea, el, hr, D⟩ => ?_) (by rw [tupsI_len]; omega) fun S acc al ⟨rs, ea, el, hr, D⟩ => ?_
    · obtain ⟨rl, ri⟩ := tupsI_items many c r (by rw [e2]; simp)
      have d2l : d2.length < many ^ c := by rw [← tupsI_len, e2]; simp
      refine ⟨_, rfl, ?_⟩
      simp only [wipeF]
      walk_at "g"
      refine (draw_ok D (by omega) (by omega) (by omega)).on fun v S ⟨i, e, i0, i1, D⟩ => ?_
      subst e
      try walk_at "g"
      refine ⟨_, rfl, rs ++ [((s, r), i)], by rw [ea, List.map_append]; rfl, by simp [el], fun q hq => ?_, D.mono (by simp; omega)⟩
      rcases List.mem_append.mp hq with h | h
      · exact hr q h
      · rw [List.mem_singleton.mp h]
        exact ⟨hs, by simp; omega, fun j hj => by have := ri j hj; omega, i0, by show i < 80; omega⟩
    · subst ea
      rw [tupsI_len] at el
      refine ⟨by simp; omega, _, _, _, qs ++ rs, by rw [List.map_append], by simp; omega, fun q hq => (List.mem_append.mp hq).elim (qh q) (hr q), D.mono (by rw [tupsI_len]; omega)⟩
  · subst e2
    simp only [m__law_judge_4]
    walk_at "g"
    simp only [eLc]
    walk_at "g"
    rw [rng1_ok (by omega) (by omega)]
    walk_at "g"
    refine sat_crng (fun k S acc => Deck rest (n + 500 + (k : Nat)) S ∧ ∃ bs : List Bool, acc = bs.map .bool ∧ bs.length = k) ⟨D.mono (by simp; omega), [], rfl, rfl⟩ (fun k S acc hk ha ⟨D, bs, ea, el⟩ => ?_) (by omega) fun S acc ha ⟨D, bs, ea, el⟩ => ?_
    · refine ⟨_, rfl, ?_⟩
      simp only [wipeF]
      walk_at "g"
      refine (draw_ok D (by omega) (by decide) (by decide)).on fun v S ⟨i, e, i0, i1, D⟩ => ?_
      subst e
      try walk_at "g"
      exact ⟨_, rfl, D.mono (by omega), bs ++ [i == 0], by rw [ea, List.map_append]; rfl, by simp [el]⟩
    · subst ea
      try walk_at "g"
      simp only [sortV]
      rw [rows_sort _ (by omega), if_pos rfl]
      walk_at "g"
      have wr : Wds 4 44000 (dsort (qs.map rowD3)) := by
        have := Wds.of (k := 4) (m := 110) (ds := dsort (qs.map rowD3)) fun d hd => by
          obtain ⟨q, hq, rfl⟩ := List.mem_map.mp ((dsort_perm _).mem_iff.mp hd)
          obtain ⟨a, b, c, d⟩ := qh q hq
          exact (row3_ok a b c d).1.mono (by decide) (Nat.le_refl _)
        refine this.mono (Nat.le_refl _) ?_
        rw [(dsort_perm _).length_eq, List.length_map]
        have : qs.length * 112 ≤ 352 * 112 := Nat.mul_le_mul_right _ (by omega)
        omega
      have lr : lowDs (dsort (qs.map rowD3)) := lowDs_all.mpr fun d hd => by
        obtain ⟨q, hq, rfl⟩ := List.mem_map.mp ((dsort_perm _).mem_iff.mp hd)
        obtain ⟨a, b, c, d⟩ := qh q hq
        exact (row3_ok a b c d).2
      exact ⟨_, _, rfl, (Wds.map (k := 4) (a := 5) (fun b _ => Wd.bool (n := 0)) 4 (by omega) (by decide)), wr, lowDs_all.mpr (fun d hd => by obtain ⟨i, _, rfl⟩ := List.mem_map.mp hd; trivial), lr, D.mono (by omega)⟩
end
theorem cut_neg1 {ds : List PyData} : PD.cutD ds none (some (-1)) = ds.take (ds.length - 1) := by
  unfold PD.cutD
  have e1 : HT.sIx ds.length 0 none = 0 := rfl
  have e2 : HT.sIx ds.length ds.length (some (-1)) = ds.length - 1 := by
    simp only [HT.sIx]
    first | omega | (split <;> omega) | (simp; omega)
  rw [e1, e2]
  simp
abbrev Vok (v : PyData) : Prop := Wd 20 200000 v ∧ lowD v
theorem law_true (ns : List Int) (h : ns.length ≤ 63) : ∃ S, F_law [.scr ns] [] = .ok (.d (.bool true)) S := by
  have sz : sizeLine = 16777216 := sizeLine_eq
  obtain ⟨S0, e0, D0⟩ := deck_ok ns h
  suffices q : (F_law [.scr ns] []).sat (fun v S => v = .d (.bool true)) NoX by
    obtain ⟨v, S, e, q⟩ := q.ex
    exact ⟨S, by rw [e, q]⟩
  unfold F_law
  walk_at "start"
  simp only [m_law, m_law_1]
  walk_at "g0"
  rw [e0]
  walk_at "g0"
  simp only [m_law_2]
  walk_at "g0"
  refine (signs_ok2 D0 (by omega) (by decide) (by decide)).on fun v S ⟨ts, e, hl, ht, D⟩ => ?_
  subst e
  have hl3 : ts.length = 3 := hl
  have tne : ts ≠ [] := fun z => by rw [z] at hl; simp at hl
  simp only [m_law_3]
  walk_at "g0"
  rw [rng1_ok (by decide) (by decide)]
  walk_at "g0"
  refine ssat_rng (fun j fr S => ∃ x3 x4 x5 x6 x7 x8 x9 x10, fr = [some (.scr ns), some (.obj 1), some (.d (.list (ts.map .str))), x3, x4, x5, x6, x7, x8, x9, x10] ∧ Deck [] (100 + 20000 * j) S) ⟨_, _, _, _, _, _, _, _, rfl, D.mono (by omega)⟩ (fun j fr S hj ⟨x3, x4, x5, x6, x7, x8, x9, x10, e, D⟩ => ?_) fun fr S ⟨x3, x4, x5, x6, x7, x8, x9, x10, e, D⟩ => ?_
  · subst e
    refine ⟨_, rfl, ?_⟩
    simp only [m_law_4]
    walk_at "g0"
    refine (kind_ok D (by omega) tne (by omega) (by decide) (by decide)).on fun v S ⟨ps, e, K, D⟩ => ?_
    subst e
    have KS : Shapes ps := ⟨fun p hp => (K.mem p hp).2, fun p hp => ht _ (K.mem p hp).1, by have := K.len; omega⟩
    simp only [m_law_5]
    walk_at "g0"
    refine (draw_ok D (by omega) (by decide) (by decide)).on fun v S ⟨q, e, q0, q1, D⟩ => ?_
    subst e
    obtain ⟨q, rfl⟩ : ∃ j : Nat, q = j := ⟨q.toNat, by omega⟩
    walk_at "g0"
    rw [show (1 : Int) + (q : Nat) = ((1 + q : Nat) : Int) by omega]
    refine (law_judge_ok D (by omega) KS K.len (by omega) (by omega)).on fun v S ⟨us, rows, e, wu, wr, lu, lr, D⟩ => ?_
    subst e
    have wj : Wd 6 45000 (.tuple [.tuple us, .tuple rows]) := Wd.t2 (k := 5) (a := 43) (b := 44003) (Wd.tup wu) (Wd.tup wr) (by decide)
    have lj : lowD (.tuple [.tuple us, .tuple rows]) := ⟨lu, lr, trivial⟩
    simp only [m_law_6]
    walk_at "g0"
    refine (odd_ok D (by omega)).on fun v S ⟨o, e, wo, lo, D⟩ => ?_
    subst e
    walk_at "g0"
    have lr2 : (rows.take (rows.length - 1)).length ≤ rows.length := by rw [List.length_take]; omega
    have lp2 : (ps.take (ps.length - 1)).length ≤ ps.length := by rw [List.length_take]; omega
    have ec : PD.cutD (ps.map pd) none (some (-1)) = (ps.take (ps.length - 1)).map pd := by rw [cut_neg1, List.length_map, List.map_take]
    have KS2 : Shapes (ps.take (ps.length - 1)) := ⟨fun p hp => KS.cnt p (List.mem_of_mem_take hp), fun p hp => KS.sn p (List.mem_of_mem_take hp), by have := KS.len; omega⟩
    rw [ec]
    have := K.len
    refine ⟨by omega, by omega, by omega, by omega, (law_judge_ok (many := 2) D (by omega) KS2 (by omega) (by omega) (by omega)).on fun v S ⟨us2, rows2, e, wu2, wr2, lu2, lr2, D⟩ => ?_⟩
    subst e
    have wj2 : Wd 6 45000 (.tuple [.tuple us2, .tuple rows2]) := Wd.t2 (k := 5) (a := 43) (b := 44003) (Wd.tup wu2) (Wd.tup wr2) (by decide)
    have wj3 : Wd 6 45000 (.tuple [.tuple us, .tuple (PD.cutD rows none (some (-1)))]) := Wd.t2 (k := 5) (a := 43) (b := 44003) (Wd.tup wu) (Wd.tup (wr.cut _ _)) (by decide)
    try walk_at "g0"
    refine ⟨by omega, ?_⟩
    simp only [m_law_7]
    walk_at "g0"
    rw [rng1_ok (by decide) (by decide)]
    walk_at "g0"
    refine ssat_rng (fun k fr S => ∃ (vs : List PyData) (y7 y8 : Option SV), fr = [some (.scr ns), some (.obj 1), some (.d (.list (ts.map .str))), some (.d (.int (j : Nat))), some (.d (.tuple (ps.map pd))), some (.d (.tuple [.tuple us, .tuple rows])), some (.d (.list vs)), y7, y8, x9, x10] ∧ (∀ v ∈ vs, Vok v) ∧ vs.length = 5 + 2 * k ∧ Deck [] (100 + 20000 * j + 3000 + 900 * k) S)
      ⟨_, _, _, rfl, ?_, rfl, D.mono (by omega)⟩ (fun k fr S hk ⟨vs, y7, y8, e, hv, hl, D⟩ => ?_) fun fr S ⟨vs, y7, y8, e, hv, hl, D⟩ => ?_
    · intro v hv
      simp only [List.mem_cons, List.not_mem_nil, or_false] at hv
      rcases hv with rfl | rfl | rfl | rfl | rfl
      · exact ⟨wj.mono (by decide) (by decide), lj⟩
      · exact ⟨wo.mono (by decide) (by decide), lo⟩
      · exact ⟨wj3.mono (by decide) (by decide), lu, low_sub lr (fun d hd => cutD_mem hd), trivial⟩
      · exact ⟨(Wd.t2 (k := 5) (a := 3) (b := 3) (n := 45000) (Wd.tup (k := 4) (Wds.nil (n := 0))) (Wd.tup (k := 4) (Wds.nil (n := 0))) (by decide)).mono (by decide) (by decide), trivial, trivial, trivial⟩
      · exact ⟨wj2.mono (by decide) (by decide), lu2, lr2, trivial⟩
    · subst e
      refine ⟨_, rfl, ?_⟩
      simp only [m_law_8]
      walk_at "g0"
      refine (bent_ok 100 4 _ 6 45000 _ S D (by omega) (by decide) (by decide) wj (by decide) lj).on fun v S ⟨b1, e, w1, l1, D⟩ => ?_
      subst e
      try walk_at "g0"
      simp only [m_law_9]
      walk_at "g0"
      refine (bent_ok 100 4 b1 9 94100 _ S D (by omega) (by decide) (by decide) w1 (by decide) l1).on fun v S ⟨b2, e, w2, l2, D⟩ => ?_
      subst e
      walk_at "g0"
      repeat refine And.intro (by first | decide | omega | (simp; omega)) ?_
      refine ⟨_, _, _, rfl, fun v h => ?_, by simp; omega, D.mono (by omega)⟩
      rcases List.mem_append.mp h with q | q
      · exact hv v q
      · simp only [List.mem_cons, List.not_mem_nil, or_false] at q
        rcases q with rfl | rfl
        · exact ⟨w1.mono (by decide) (by decide), l1⟩
        · exact ⟨w2.mono (by decide) (by decide), l2⟩
    · subst e
      simp only [m_law_10]
      walk_at "g0"
      refine ssat_each (fun done fr S' => S' = S ∧ ∃ (z9 z10 : Option SV), fr = [some (.scr ns), some (.obj 1), some (.d (.list (ts.map .str))), some (.d (.int (j : Nat))), some (.d (.tuple (ps.map pd))), some (.d (.tuple [.tuple us, .tuple rows])), some (.d (.list vs)), y7, y8, z9, z10])
        ⟨rfl, _, _, rfl⟩ (fun done v more e fr S' ⟨e1, z9, z10, e2⟩ => ?_) fun fr S' ⟨e1, z9, z10, e2⟩ => ?_
      · subst e1 e2
        refine ⟨_, rfl, ?_⟩
        obtain ⟨gv, lv⟩ := hv v (by rw [e]; simp)
        have wb : ∀ b : Bool, Wd 0 5 (.bool b) := fun b => Wd.bool (n := 0)
        simp only [m_law_11]
        walk_at "g0"
        rw [gv.repr]
        walk_at "g0"
        simp only [m_law_12]
        walk_at "g0"
        rw [is_judge_eq ps v _ KS gv]
        walk_at "g0"
        rw [(wb _).repr]
        walk_at "g0"
        rw [law_is_judge_eq ps v _ KS gv (by decide) lv]
        walk_at "g0"
        rw [(wb _).repr]
        walk_at "g0"
        rw [gv.repr]
        walk_at "g0"
        exact ⟨_, _, rfl⟩
      · subst e1 e2
        exact ⟨_, _, _, _, _, _, _, _, rfl, D.mono (by omega)⟩
  · subst e
    simp only [m_law_14]
    walk_at "g0"
end Wk
open PySem PySem.W PyProof.Rows
set_option maxRecDepth 100000 in
set_option maxHeartbeats 0 in
theorem PySem.Challenge.cw_anymaze_k70_judges_judged_holds : PySem.Challenge.rw_anymaze_k70_judges_judged.Holds := by
  w_on; o_law; k_head; (case hw => w_witness2)
  k_fill
  refine Wk.walk Wk.law_true rfl (by decide +kernel) (fun w h Y => PySem.W.kIn_of Y) ?F
  case F =>
    intro w mg fa h KX G hmg
    refine' Wk.at_mk KX G hmg ?a1 ?l1 ?c1 ?k1 ?a2 ?l2 ?c2 ?k2 ?a3 ?l3 ?c3 ?k3 ?a4 ?l4 ?c4 ?k4 ?a5 ?l5 ?c5 ?k5 ?a6 ?l6 ?c6 ?k6 ?a7 ?l7 ?c7 ?k7 ?a8 ?l8 ?c8 ?k8 ?a9 ?l9 ?c9 ?k9 ?a10 ?l10 ?c10 ?k10 ?a11 ?l11 ?c11 ?k11 ?a12 ?l12 ?c12 ?k12 ?a13 ?l13 ?c13 ?k13 ?a14 ?l14 ?c14 ?k14 ?a15 ?l15 ?c15 ?k15 ?a16 ?l16 ?c16 ?k16 ?a17 ?l17 ?c17 ?k17 ?a18 ?l18 ?c18 ?k18 ?z_abs ?z_all ?z_bool ?z_int ?z_isinstance ?z_len ?z_list ?z_range ?z_repr ?z_set ?z_sorted ?z_str ?z_sum ?z_tuple ?z_zip ?v_MAX_ANSWERS
    (case a1 => k_is)
    (case l1 => k_is)
    (case c1 => k_is)
    (case k1 => k_is)
    (case a2 => k_is)
    (case l2 => k_is)
    (case c2 => k_is)
    (case k2 => k_is)
    (case a3 => k_is)
    (case l3 => k_is)
    (case c3 => k_is)
    (case k3 => k_is)
    (case a4 => k_is)
    (case l4 => k_is)
    (case c4 => k_is)
    (case k4 => k_is)
    (case a5 => k_is)
    (case l5 => k_is)
    (case c5 => k_is)
    (case k5 => k_is)
    (case a6 => k_is)
    (case l6 => k_is)
    (case c6 => k_is)
    (case k6 => k_is)
    (case a7 => k_is)
    (case l7 => k_is)
    (case c7 => k_is)
    (case k7 => k_is)
    (case a8 => k_is)
    (case l8 => k_is)
    (case c8 => k_is)
    (case k8 => k_is)
    (case a9 => k_is)
    (case l9 => k_is)
    (case c9 => k_is)
    (case k9 => k_is)
    (case a10 => k_is)
    (case l10 => k_is)
    (case c10 => k_is)
    (case k10 => k_is)
    (case a11 => k_is)
    (case l11 => k_is)
    (case c11 => k_is)
    (case k11 => k_is)
    (case a12 => k_is)
    (case l12 => k_is)
    (case c12 => k_is)
    (case k12 => k_is)
    (case a13 => k_is)
    (case l13 => k_is)
    (case c13 => k_is)
    (case k13 => k_is)
    (case a14 => k_is)
    (case l14 => k_is)
    (case c14 => k_is)
    (case k14 => k_is)
    (case a15 => k_is)
    (case l15 => k_is)
    (case c15 => k_is)
    (case k15 => k_is)
    (case a16 => k_is)
    (case l16 => k_is)
    (case c16 => k_is)
    (case k16 => k_is)
    (case a17 => k_is)
    (case l17 => k_is)
    (case c17 => k_is)
    (case k17 => k_is)
    (case a18 => k_is)
    (case l18 => k_is)
    (case c18 => k_is)
    (case k18 => k_is)
    (case z_abs => k_is)
    (case z_all => k_is)
    (case z_bool => k_is)
    (case z_int => k_is)
    (case z_isinstance => k_is)
    (case z_len => k_is)
    (case z_list => k_is)
    (case z_range => k_is)
    (case z_repr => k_is)
    (case z_set => k_is)
    (case z_sorted => k_is)
    (case z_str => k_is)
    (case z_sum => k_is)
    (case z_tuple => k_is)
    (case z_zip => k_is)
    (case v_MAX_ANSWERS => k_is)
