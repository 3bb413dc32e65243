import PyProof.Rows.All
import Wide.All
import OpenK.AllK
import Wide.FinOn
import HandS.ForMost
import HandS.Exc
import HandS.ExcOwn
import HandS.TryOnly
import HandS.WordsExc
import KE.KeyNested
import PyProof.P3Eq
import PyProof.P3In
import PyProof.NeData
import PyProof.ReprRoads
import HandS.TupAny
import HandS.TupMul
import HandS.Deep
import KE.DataIsa
import HandS.Conv
import KE.LtSeq
import HandS.RaiseMore
import HandS.Flow
import HandS.Zip
import KE.GoesNew
import HandS.RevRange
import HandS.Rev
import HandS.Style
import HandS.CallSlots
import KE.GoesMore
import KE.GoesEnum
import HandS.Text
import HandS.FStr
import HandS.Ends
import HandS.List
import HandS.Dict
import HandS.TupSets
import KE.SortData
import HandS.SetFor
import KE.KRevSl
import KE.KDictList
import HandS.DictComp
import PyProof.FitsInt
import PyProof.StrLaws
import PyProof.StrLawsRepr
import KE.KDictZip
import KE.KItemsList
import HandS.ListItems
import KE.KIntText
import HandS.SetTxt0
import PySem.Challenge.RW_anymaze_k51_whole_great_plans_by_steps
set_option Elab.async false
set_option linter.all false
set_option maxRecDepth 100000
set_option autoImplicit false
namespace PD
open PySem PySem.Spec PyProof.Rows L2
structure Mo where
  w : World
  K : PySem.W.Frag
  mg : Str → Option Value
inductive SV where
  | d (x : PyData)
  | obj (r : Nat)
  | scr (ns : List Int)
inductive Ob where
  | lst (xs : List SV)
  | ins (C : Str) (fs : List (Str × SV))
abbrev Store := List Ob
structure Exc where
  cls : Str
  flds : Option (List (Str × SV))
inductive Rs (α : Type) where
  | ok (a : α) (S : Store)
  | exc (x : Exc) (S : Store)
  | bad
def Rs.bind {α β : Type} : Rs α → (α → Store → Rs β) → Rs β
  | .ok a S, f => f a S
  | .exc x S, _ => .exc x S
  | .bad, _ => .bad
abbrev Fr := List (Option SV)
abbrev EM := Fr → Store → Rs SV
abbrev TMt := Fr → Store → Rs Bool
abbrev AM := Fr → Store → Rs (List SV)
mutual
def toKey : PyData → Option NestedKey
  | .none => some .none
  | .int i => some (.num i)
  | .str x => some (.text x)
  | .tuple xs => (toKeys xs).map .tup
  | .bool _ | .list _ | .dict _ => none
def toKeys : List PyData → Option (List NestedKey)
  | [] => some []
  | x :: xs => (toKey x).bind fun k => (toKeys xs).map (k :: ·)
end
def FzL (K : PySem.W.Frag) (F : Addr → Prop) (H : Hp) (a : Addr) (xs : List V) : Prop :=
  (F a ∧ H a = some (.lst xs)) ∨ (∃ o, H a = some (.frz o (.lst xs))) ∨
    ∃ (o : Obj) (its : Array Value) (n : Nat), K.lookup a = some o ∧ o.cls = .type "list" ∧ o.dict = none ∧ o.data = .seq its n ∧ its.size ≤ sizeLine ∧ Vals xs its.toList
theorem FzL.sq {K : PySem.W.Frag} {F : Addr → Prop} {H : Hp} {a : Addr} {xs : List V} (h : FzL K F H a xs) : SqL K H a xs := by
  rcases h with ⟨_, h⟩ | h | h
  · exact .inl (.inl h)
  · exact .inl (.inr h)
  · exact .inr h
def dictObj (w : World) (a : Addr) (es : List (NestedKey × Addr × V)) (h : Heap) : Prop :=
  ∃ o ds ep, h.get? a = some o ∧ o.ExactDict ∧ o.data = .dict ds ep ∧ Paired (fun (p : NestedKey × Addr × V) (e : DictEntry) => e.hash = p.1.hash w ∧ e.key = .ref p.2.1 ∧ RelV p.2.2 e.val) es ds.toList ∧ (es.map (·.1)).Nodup ∧ sysModules ≠ a
def KeysAre (ds : List (PyData × PyData)) (es : List (NestedKey × Addr × V)) : Prop := Paired (fun (p : PyData × PyData) (e : NestedKey × Addr × V) => toKey p.1 = some e.1 ∧ e.1.depth ≤ 8) ds es
mutual
inductive Rp (M : Mo) (F : Addr → Prop) (H : Hp) : PyData → V → Prop
  | non : Rp M F H .none .non
  | bl (b : Bool) : Rp M F H (.bool b) (.bl b)
  | int (i : Int) : Rp M F H (.int i) (.int i)
  | str (x : Str) : Rp M F H (.str x) (.str x)
  | lst {a : Addr} {xs : List V} {ds : List PyData} : F a → H a = some (.lst xs) → RpAll M F H ds xs → Rp M F H (.list ds) (.ref a)
  | tup {a : Addr} {xs : List V} {ds : List PyData} : SqT M.K H a xs → RpAll M F H ds xs → Rp M F H (.tuple ds) (.ref a)
  | dK {a : Addr} {kvs : List (Key × V)} {ds : List (PyData × PyData)} : F a → H a = some (.dK kvs) → RpAll M F H (ds.map (·.1)) (kvs.map fun p => kV p.1) → RpAll M F H (ds.map (·.2)) (kvs.map (·.2)) → Rp M F H (.dict ds) (.ref a)
  | dN {a : Addr} {es : List (NestedKey × Addr × V)} {ds : List (PyData × PyData)} : F a → H a = some (.ext (dictObj M.w a es)) → KeysAre ds es → RpAll M F H (ds.map (·.1)) (es.map fun e => V.ref e.2.1) → RpAll M F H (ds.map (·.2)) (es.map (·.2.2)) → Rp M F H (.dict ds) (.ref a)
inductive RpAll (M : Mo) (F : Addr → Prop) (H : Hp) : List PyData → List V → Prop
  | nil : RpAll M F H [] []
  | cons {d : PyData} {ds : List PyData} {v : V} {vs : List V} : Rp M F H d v → RpAll M F H ds vs → RpAll M F H (d :: ds) (v :: vs)
end
section
variable {M : Mo} {F F' : Addr → Prop} {H H' : Hp}
theorem RpAll.length : ∀ {ds : List PyData} {vs : List V}, RpAll M F H ds vs → ds.length = vs.length
  | _, _, .nil => rfl
  | _, _, .cons _ t => by simp [RpAll.length t]
theorem RpAll.get : ∀ {ds : List PyData} {vs : List V} {i : Nat} {d : PyData}, RpAll M F H ds vs → ds[i]? = some d → ∃ v, vs[i]? = some v ∧ Rp M F H d v
  | _, _, i, _, .nil, e => by simp at e
  | _, _, 0, d, .cons r _, e => by
    simp at e; subst e; exact ⟨_, by simp, r⟩
  | _, _, i + 1, d, .cons _ t, e => by
    obtain ⟨v, h1, h2⟩ := RpAll.get (i := i) t (by simpa using e)
    exact ⟨v, by simpa using h1, h2⟩
theorem RpAll.append : ∀ {ds es : List PyData} {vs us : List V}, RpAll M F H ds vs → RpAll M F H es us → RpAll M F H (ds ++ es) (vs ++ us)
  | _, _, _, _, .nil, q => q
  | _, _, _, _, .cons r t, q => .cons r (RpAll.append t q)
structure Keeps (F F' : Addr → Prop) (H H' : Hp) : Prop where
  sub : ∀ a, F a → F' a
  frozen : ∀ a o, F a → H a = some o → H' a = some o
  tup : ∀ a xs, H a = some (.tup xs) → H' a = some (.tup xs)
  frz : ∀ a o u, H a = some (.frz o u) → H' a = some (.frz o u)
theorem Keeps.sqT (k : Keeps F F' H H') {K : PySem.W.Frag} {a : Addr} {xs : List V} (h : SqT K H a xs) : SqT K H' a xs := by
  rcases h with (h | ⟨o, h⟩) | h
  · exact .inl (.inl (k.tup _ _ h))
  · exact .inl (.inr ⟨o, k.frz _ _ _ h⟩)
  · exact .inr h
theorem Keeps.fzL (k : Keeps F F' H H') {K : PySem.W.Frag} {a : Addr} {xs : List V} (h : FzL K F H a xs) : FzL K F' H' a xs := by
  rcases h with ⟨f, h⟩ | ⟨o, h⟩ | h
  · exact .inl ⟨k.sub _ f, k.frozen _ _ f h⟩
  · exact .inr (.inl ⟨o, k.frz _ _ _ h⟩)
  · exact .inr (.inr h)
mutual
theorem Rp.keep (k : Keeps F F' H H') : ∀ {d : PyData} {v : V}, Rp M F H d v → Rp M F' H' d v
  | _, _, .non => .non
  | _, _, .bl b => .bl b
  | _, _, .int i => .int i
  | _, _, .str x => .str x
  | _, _, .lst f h r => .lst (k.sub _ f) (k.frozen _ _ f h) (RpAll.keep k r)
  | _, _, .tup h r => .tup (k.sqT h) (RpAll.keep k r)
  | _, _, .dK f h r s => .dK (k.sub _ f) (k.frozen _ _ f h) (RpAll.keep k r) (RpAll.keep k s)
  | _, _, .dN f h z r s => .dN (k.sub _ f) (k.frozen _ _ f h) z (RpAll.keep k r) (RpAll.keep k s)
theorem RpAll.keep (k : Keeps F F' H H') : ∀ {ds : List PyData} {vs : List V}, RpAll M F H ds vs → RpAll M F' H' ds vs
  | _, _, .nil => .nil
  | _, _, .cons r t => .cons (Rp.keep k r) (RpAll.keep k t)
end
end
structure Gh where
  F : Addr → Prop
  rho : List Addr
  H0 : Hp
  F0 : Addr → Prop
  rho0 : List Addr
def RpS (M : Mo) (G : Gh) (H : Hp) : SV → V → Prop
  | .d x, v => Rp M G.F H x v
  | .obj r, v => ∃ a, G.rho[r]? = some a ∧ v = .ref a
  | .scr ns, v => ∃ a, v = .ref a ∧ FzL M.K G.F H a (ns.map V.int)
abbrev RpSs (M : Mo) (G : Gh) (H : Hp) : List SV → List V → Prop := Paired (RpS M G H)
def RpF (M : Mo) (G : Gh) (H : Hp) : List (Str × SV) → List (Str × V) → Prop := Paired fun p q => p.1 = q.1 ∧ RpS M G H p.2 q.2
def ObR (M : Mo) (G : Gh) (H : Hp) : Ob → Addr → Prop
  | .lst ds, a => ∃ xs, H a = some (.lst xs) ∧ RpSs M G H ds xs
  | .ins C fs, a => ∃ ca dx vs, M.mg C = some (.ref ca) ∧ H a = some (.ins ca dx vs) ∧ RpF M G H fs vs
def FzOk (M : Mo) (H : Hp) (a : Addr) : Prop := (∃ xs, H a = some (.lst xs)) ∨ (∃ kvs, H a = some (.dK kvs)) ∨ ∃ es, H a = some (.ext (dictObj M.w a es))
structure Base (M : Mo) (H : Hp) (S : Store) (G : Gh) : Prop where
  len : S.length = G.rho.length
  ob : ∀ (r : Nat) (o : Ob) (a : Addr), S[r]? = some o → G.rho[r]? = some a → ObR M G H o a
  nd : G.rho.Nodup
  frz : ∀ a, G.F a → a ∉ G.rho ∧ FzOk M H a
  keep0 : ∀ a o, G.H0 a = some o → a ∉ G.rho0 → H a = some o
  sub0 : ∀ a, G.F0 a → G.F a
  newF : ∀ a, G.F a → G.F0 a ∨ G.H0 a = none
  pre : ∃ more, G.rho = G.rho0 ++ more
  newR : ∀ a, a ∈ G.rho → a ∈ G.rho0 ∨ G.H0 a = none
structure Stp (G : Gh) (H : Hp) (G' : Gh) (H' : Hp) : Prop where
  h0 : G'.H0 = G.H0
  f0 : G'.F0 = G.F0
  r0 : G'.rho0 = G.rho0
  sub : ∀ a, G.F a → G'.F a
  newF : ∀ a, G'.F a → G.F a ∨ H a = none
  pre : ∃ more, G'.rho = G.rho ++ more
  newR : ∀ a, a ∈ G'.rho → a ∈ G.rho ∨ H a = none
  keep : ∀ a o, H a = some o → a ∉ G.rho → H' a = some o
  there : ∀ a, H' a = none → H a = none
theorem Stp.refl {G : Gh} {H : Hp} : Stp G H G H := ⟨rfl, rfl, rfl, fun _ h => h, fun _ h => .inl h, ⟨[], by simp⟩, fun _ h => .inl h, fun _ _ h _ => h, fun _ h => h⟩
theorem Stp.trans {G G1 G2 : Gh} {H H1 H2 : Hp} (a : Stp G H G1 H1) (b : Stp G1 H1 G2 H2) : Stp G H G2 H2 where
  h0 := b.h0.trans a.h0
  f0 := b.f0.trans a.f0
  r0 := b.r0.trans a.r0
  sub := fun x h => b.sub x (a.sub x h)
  newF := fun x h => (b.newF x h).elim (fun q => a.newF x q) fun q => .inr (a.there x q)
  pre := by
    obtain ⟨m1, e1⟩ := a.pre
    obtain ⟨m2, e2⟩ := b.pre
    exact ⟨m1 ++ m2, by rw [e2, e1, List.append_assoc]⟩
  newR := fun x h => (b.newR x h).elim (fun q => a.newR x q) fun q => .inr (a.there x q)
  keep := fun x o h n => b.keep x o (a.keep x o h n) fun hm => (a.newR x hm).elim (fun q => n q) fun q => by rw [q] at h; cases h
  there := fun x h => a.there x (b.there x h)
section
variable {M : Mo} {G G' : Gh} {H H' : Hp} {S S' : Store}
theorem Base.rho_get (B : Base M H S G) {a : Addr} (h : a ∈ G.rho) : ∃ o, ObR M G H o a := by
  obtain ⟨r, hr, e⟩ := List.mem_iff_getElem.mp h
  have hs : r < S.length := by rw [B.len]; exact hr
  exact ⟨S[r], B.ob r S[r] a (List.getElem?_eq_getElem hs) (by rw [List.getElem?_eq_getElem hr, e])⟩
theorem ObR.some {o : Ob} {a : Addr} (h : ObR M G H o a) : (∃ xs, H a = some (.lst xs)) ∨ ∃ ca dx vs, H a = some (.ins ca dx vs) := by
  cases o with
  | lst ds => obtain ⟨xs, e, _⟩ := h; exact .inl ⟨xs, e⟩
  | ins C fs => obtain ⟨ca, dx, vs, _, e, _⟩ := h; exact .inr ⟨ca, dx, vs, e⟩
theorem Base.no_tup (B : Base M H S G) {a : Addr} {xs : List V} (h : H a = some (.tup xs)) : a ∉ G.rho := fun hm => by
  obtain ⟨o, q⟩ := B.rho_get hm
  rcases q.some with ⟨ys, e⟩ | ⟨_, _, _, e⟩ <;> (rw [e] at h; cases h)
theorem Base.no_frz (B : Base M H S G) {a : Addr} {o : Obj} {u : HO} (h : H a = some (.frz o u)) : a ∉ G.rho := fun hm => by
  obtain ⟨o, q⟩ := B.rho_get hm
  rcases q.some with ⟨ys, e⟩ | ⟨_, _, _, e⟩ <;> (rw [e] at h; cases h)
theorem Base.keeps (B : Base M H S G) (st : Stp G H G' H') : Keeps G.F G'.F H H' where
  sub := st.sub
  frozen := fun a o f h => st.keep a o h (B.frz a f).1
  tup := fun a xs h => st.keep a _ h (B.no_tup h)
  frz := fun a o u h => st.keep a _ h (B.no_frz h)
theorem RpS.keep (k : Keeps G.F G'.F H H') (p : ∃ more, G'.rho = G.rho ++ more) : ∀ {x : SV} {v : V}, RpS M G H x v → RpS M G' H' x v
  | .d x, _, h => Rp.keep k h
  | .obj r, _, ⟨a, e, q⟩ => by
    obtain ⟨more, hm⟩ := p
    refine ⟨a, ?_, q⟩
    rw [hm, List.getElem?_append_left (List.getElem?_eq_some_iff.mp e).1]
    exact e
  | .scr ns, _, ⟨a, e, q⟩ => ⟨a, e, k.fzL q⟩
theorem RpSs.keep (k : Keeps G.F G'.F H H') (p : ∃ more, G'.rho = G.rho ++ more) {xs : List SV} {vs : List V} (h : RpSs M G H xs vs) : RpSs M G' H' xs vs := Paired.mapP h fun _ _ q => RpS.keep k p q
theorem RpF.keep (k : Keeps G.F G'.F H H') (p : ∃ more, G'.rho = G.rho ++ more) {xs : List (Str × SV)} {vs : List (Str × V)} (h : RpF M G H xs vs) : RpF M G' H' xs vs := Paired.mapP h fun _ _ q => ⟨q.1, RpS.keep k p q.2⟩
theorem Base.rps (B : Base M H S G) (st : Stp G H G' H') {x : SV} {v : V} (h : RpS M G H x v) : RpS M G' H' x v := RpS.keep (B.keeps st) st.pre h
theorem Base.rpss (B : Base M H S G) (st : Stp G H G' H') {x : List SV} {v : List V} (h : RpSs M G H x v) : RpSs M G' H' x v := RpSs.keep (B.keeps st) st.pre h
end
def Cont (M : Mo) (F : Addr → Prop) (H : Hp) (a : Addr) (v : SV) : Prop :=
  (∃ ds xs, v = .d (.list ds) ∧ H a = some (.lst xs) ∧ RpAll M F H ds xs) ∨
  (∃ ds kvs, v = .d (.dict ds) ∧ H a = some (.dK kvs) ∧ RpAll M F H (ds.map (·.1)) (kvs.map fun p => kV p.1) ∧ RpAll M F H (ds.map (·.2)) (kvs.map (·.2))) ∨
  (∃ ds es, v = .d (.dict ds) ∧ H a = some (.ext (dictObj M.w a es)) ∧ KeysAre ds es ∧ RpAll M F H (ds.map (·.1)) (es.map fun e => V.ref e.2.1) ∧ RpAll M F H (ds.map (·.2)) (es.map (·.2.2)))
def OwnR (M : Mo) (G : Gh) (H : Hp) (v : SV) (u : V) : Prop := ∃ a, u = .ref a ∧ ¬ G.F a ∧ a ∉ G.rho ∧ G.H0 a = none ∧ Cont M G.F H a v
abbrev Own := List Bool
def Own.has (O : Own) (i : Nat) : Prop := O[i]? = some true
instance (O : Own) (i : Nat) : Decidable (O.has i) := inferInstanceAs (Decidable (O[i]? = some true))
structure Rel (M : Mo) (O : Own) (σ : L2.St) (H : Hp) (fr : Fr) (S : Store) (G : Gh) : Prop where
  base : Base M H S G
  len : fr.length = σ.length
  slot : ∀ (i : Nat) (v : SV), fr[i]? = some (some v) → ∃ u, σ[i]? = some (some u) ∧ (O.has i → OwnR M G H v u) ∧ (¬ O.has i → RpS M G H v u)
  own : ∀ (i j : Nat) (v w : SV) (a : Addr), O.has i → O.has j → fr[i]? = some (some v) → fr[j]? = some (some w) → σ[i]? = some (some (V.ref a)) → σ[j]? = some (some (V.ref a)) → i = j
section
variable {M : Mo} {G G' : Gh} {H H' : Hp} {S S' : Store} {O : Own} {σ : L2.St} {fr : Fr}
theorem Cont.there {F : Addr → Prop} {a : Addr} {v : SV} (h : Cont M F H a v) : ∃ o, H a = some o ∧ FzOk M H a := by
  rcases h with ⟨_, _, _, q, _⟩ | ⟨_, _, _, q, _⟩ | ⟨_, _, _, q, _⟩
  · exact ⟨_, q, .inl ⟨_, q⟩⟩
  · exact ⟨_, q, .inr (.inl ⟨_, q⟩)⟩
  · exact ⟨_, q, .inr (.inr ⟨_, q⟩)⟩
theorem Cont.keep {F F' : Addr → Prop} {a : Addr} {v : SV} (k : Keeps F F' H H') (ha : ∀ o, H a = some o → H' a = some o) (h : Cont M F H a v) : Cont M F' H' a v := by
  rcases h with ⟨ds, xs, e1, q, r⟩ | ⟨ds, kvs, e1, q, r, r'⟩ | ⟨ds, es, e1, q, z, r, r'⟩
  · exact .inl ⟨ds, xs, e1, ha _ q, RpAll.keep k r⟩
  · exact .inr (.inl ⟨ds, kvs, e1, ha _ q, RpAll.keep k r, RpAll.keep k r'⟩)
  · exact .inr (.inr ⟨ds, es, e1, ha _ q, z, RpAll.keep k r, RpAll.keep k r'⟩)
theorem Cont.rp {F : Addr → Prop} {a : Addr} {x : PyData} (f : F a) (h : Cont M F H a (.d x)) : Rp M F H x (.ref a) := by
  rcases h with ⟨ds, xs, e1, q, r⟩ | ⟨ds, kvs, e1, q, r, r'⟩ | ⟨ds, es, e1, q, z, r, r'⟩
  · cases e1; exact .lst f q r
  · cases e1; exact .dK f q r r'
  · cases e1; exact .dN f q z r r'
theorem Cont.data {F : Addr → Prop} {a : Addr} {v : SV} (h : Cont M F H a v) : ∃ x, v = .d x := by
  rcases h with ⟨_, _, e, _⟩ | ⟨_, _, e, _⟩ | ⟨_, _, e, _⟩ <;> exact ⟨_, e⟩
theorem OwnR.step {v : SV} {u : V} (B : Base M H S G) (st : Stp G H G' H') (h : OwnR M G H v u) : OwnR M G' H' v u := by
  obtain ⟨a, e, nf, nr, h0, q⟩ := h
  obtain ⟨o, ho, _⟩ := Cont.there q
  have hne : H a ≠ none := fun z => by rw [z] at ho; cases ho
  exact ⟨a, e, fun f => (st.newF a f).elim nf hne, fun f => (st.newR a f).elim nr hne, (by rw [st.h0]; exact h0), Cont.keep (B.keeps st) (fun o e => st.keep _ _ e nr) q⟩
theorem Rel.step (R : Rel M O σ H fr S G) (st : Stp G H G' H') (B : Base M H' S' G') : Rel M O σ H' fr S' G' where
  base := B
  len := R.len
  slot := fun i v e => by
    obtain ⟨u, h1, h2, h3⟩ := R.slot i v e
    exact ⟨u, h1, fun o => OwnR.step R.base st (h2 o), fun o => R.base.rps st (h3 o)⟩
  own := R.own
theorem Base.newFz (B : Base M H S G) {p : Addr} {o : HO} (hp : H p = none) (ok : FzOk M (upd H p o) p) :
    Base M (upd H p o) S { G with F := fun a => G.F a ∨ a = p } ∧ Stp G H { G with F := fun a => G.F a ∨ a = p } (upd H p o) := by
  have same : ∀ a u, H a = some u → upd H p o a = some u := fun a u h => by rw [upd_ne (ne_of_none h hp)]; exact h
  have st : Stp G H { G with F := fun a => G.F a ∨ a = p } (upd H p o) := by
    refine ⟨rfl, rfl, rfl, fun _ h => .inl h, fun a h => h.elim .inl fun e => .inr (by rw [e]; exact hp), ⟨[], by simp⟩, fun _ h => .inl h, fun a u h _ => same a u h, fun a h => ?_⟩
    by_cases e : a = p
    · rw [e]; exact hp
    · rw [upd_ne e] at h; exact h
  have k := B.keeps st
  have h0 : G.H0 p = none ∨ p ∈ G.rho0 := by
    cases q : G.H0 p with
    | none => exact .inl rfl
    | some u =>
      by_cases m : p ∈ G.rho0
      · exact .inr m
      · have := B.keep0 p u q m
        rw [hp] at this; cases this
  have pr : p ∉ G.rho := fun m => by
    obtain ⟨x, q⟩ := B.rho_get m
    rcases q.some with ⟨ys, e⟩ | ⟨_, _, _, e⟩ <;> (rw [hp] at e; cases e)
  have pr0 : p ∉ G.rho0 := fun m => pr (by obtain ⟨more, e⟩ := B.pre; rw [e]; exact List.mem_append_left _ m)
  refine ⟨⟨B.len, fun r x a h1 h2 => ?_, B.nd, fun a h => ?_, fun a u h m => same a u (B.keep0 a u h m), fun a h => .inl (B.sub0 a h), fun a h => h.elim (B.newF a) fun e => .inr ?_, B.pre, B.newR⟩, st⟩
  · have q := B.ob r x a h1 h2
    cases x with
    | lst ds =>
      obtain ⟨xs, e, r⟩ := q
      exact ⟨xs, same _ _ e, RpSs.keep k st.pre r⟩
    | ins C fs =>
      obtain ⟨ca, dx, vs, e1, e2, r⟩ := q
      exact ⟨ca, dx, vs, e1, same _ _ e2, RpF.keep k st.pre r⟩
  · rcases h with h | e
    · obtain ⟨n, q⟩ := B.frz a h
      refine ⟨n, ?_⟩
      rcases q with ⟨_, q⟩ | ⟨_, q⟩ | ⟨_, q⟩
      · exact .inl ⟨_, same _ _ q⟩
      · exact .inr (.inl ⟨_, same _ _ q⟩)
      · exact .inr (.inr ⟨_, same _ _ q⟩)
    · subst e
      exact ⟨pr, ok⟩
  · rw [e]
    rcases h0 with h | h
    · exact h
    · exact absurd h pr0
theorem Base.newT (B : Base M H S G) {p : Addr} {o : HO} (hp : H p = none) : Base M (upd H p o) S G ∧ Stp G H G (upd H p o) := by
  have same : ∀ a u, H a = some u → upd H p o a = some u := fun a u h => by rw [upd_ne (ne_of_none h hp)]; exact h
  have st : Stp G H G (upd H p o) := by
    refine ⟨rfl, rfl, rfl, fun _ h => h, fun a h => .inl h, ⟨[], by simp⟩, fun _ h => .inl h, fun a u h _ => same a u h, fun a h => ?_⟩
    by_cases e : a = p
    · rw [e]; exact hp
    · rw [upd_ne e] at h; exact h
  have k := B.keeps st
  refine ⟨⟨B.len, fun r x a h1 h2 => ?_, B.nd, fun a h => ?_, fun a u h m => same a u (B.keep0 a u h m), B.sub0, B.newF, B.pre, B.newR⟩, st⟩
  · have q := B.ob r x a h1 h2
    cases x with
    | lst ds =>
      obtain ⟨xs, e, r⟩ := q
      exact ⟨xs, same _ _ e, RpSs.keep k st.pre r⟩
    | ins C fs =>
      obtain ⟨ca, dx, vs, e1, e2, r⟩ := q
      exact ⟨ca, dx, vs, e1, same _ _ e2, RpF.keep k st.pre r⟩
  · obtain ⟨n, q⟩ := B.frz a h
    refine ⟨n, ?_⟩
    rcases q with ⟨_, q⟩ | ⟨_, q⟩ | ⟨_, q⟩
    · exact .inl ⟨_, same _ _ q⟩
    · exact .inr (.inl ⟨_, same _ _ q⟩)
    · exact .inr (.inr ⟨_, same _ _ q⟩)
theorem Rel.newL (R : Rel M O σ H fr S G) {p : Addr} {xs : List V} {ds : List PyData} (hp : H p = none) (r : RpAll M G.F H ds xs) :
    ∃ G', Rel M O σ (upd H p (.lst xs)) fr S G' ∧ Stp G H G' (upd H p (.lst xs)) ∧ RpS M G' (upd H p (.lst xs)) (.d (.list ds)) (.ref p) := by
  obtain ⟨B, st⟩ := R.base.newFz (o := .lst xs) hp (.inl ⟨xs, upd_same⟩)
  exact ⟨_, R.step st B, st, .lst (.inr rfl) upd_same (RpAll.keep (R.base.keeps st) r)⟩
theorem Rel.newT (R : Rel M O σ H fr S G) {p : Addr} {xs : List V} {ds : List PyData} (hp : H p = none) (r : RpAll M G.F H ds xs) :
    Rel M O σ (upd H p (.tup xs)) fr S G ∧ Stp G H G (upd H p (.tup xs)) ∧ RpS M G (upd H p (.tup xs)) (.d (.tuple ds)) (.ref p) := by
  obtain ⟨B, st⟩ := R.base.newT (o := .tup xs) hp
  exact ⟨R.step st B, st, .tup (.inl (.inl upd_same)) (RpAll.keep (R.base.keeps st) r)⟩
structure Adv (G : Gh) (H : Hp) (G' : Gh) (H' : Hp) : Prop where
  h0 : G'.H0 = G.H0
  f0 : G'.F0 = G.F0
  r0 : G'.rho0 = G.rho0
  keeps : Keeps G.F G'.F H H'
  pre : ∃ more, G'.rho = G.rho ++ more
theorem Keeps.refl {F : Addr → Prop} : Keeps F F H H := ⟨fun _ h => h, fun _ _ _ h => h, fun _ _ h => h, fun _ _ _ h => h⟩
theorem Keeps.trans {F F1 F2 : Addr → Prop} {H1 H2 : Hp} (a : Keeps F F1 H H1) (b : Keeps F1 F2 H1 H2) : Keeps F F2 H H2 :=
  ⟨fun x h => b.sub x (a.sub x h), fun x o f h => b.frozen x o (a.sub x f) (a.frozen x o f h), fun x o h => b.tup x o (a.tup x o h), fun x o u h => b.frz x o u (a.frz x o u h)⟩
theorem Adv.refl : Adv G H G H := ⟨rfl, rfl, rfl, Keeps.refl, ⟨[], by simp⟩⟩
theorem Adv.trans {G2 : Gh} {H2 : Hp} (a : Adv G H G' H') (b : Adv G' H' G2 H2) : Adv G H G2 H2 where
  h0 := b.h0.trans a.h0
  f0 := b.f0.trans a.f0
  r0 := b.r0.trans a.r0
  keeps := a.keeps.trans b.keeps
  pre := by
    obtain ⟨m1, e1⟩ := a.pre
    obtain ⟨m2, e2⟩ := b.pre
    exact ⟨m1 ++ m2, by rw [e2, e1, List.append_assoc]⟩
theorem Base.adv (B : Base M H S G) (st : Stp G H G' H') : Adv G H G' H' := ⟨st.h0, st.f0, st.r0, B.keeps st, st.pre⟩
theorem Adv.rps (a : Adv G H G' H') {x : SV} {v : V} (h : RpS M G H x v) : RpS M G' H' x v := RpS.keep a.keeps a.pre h
theorem Rel.freeze (R : Rel M O σ H fr S G) (O' : Own) (sub : ∀ i, O'.has i → O.has i) : ∃ G', Rel M O' σ H fr S G' ∧ Adv G H G' H := by
  let F' : Addr → Prop := fun a => G.F a ∨ ∃ i v, O.has i ∧ ¬ O'.has i ∧ fr[i]? = some (some v) ∧ σ[i]? = some (some (V.ref a))
  have k : Keeps G.F F' H H := ⟨fun a h => .inl h, fun _ _ _ h => h, fun _ _ h => h, fun _ _ _ h => h⟩
  have at_ : ∀ i v a, O.has i → fr[i]? = some (some v) → σ[i]? = some (some (V.ref a)) → ¬ G.F a ∧ a ∉ G.rho ∧ G.H0 a = none ∧ Cont M G.F H a v := fun i v a o e1 e2 => by
    obtain ⟨u, h1, h2, _⟩ := R.slot i v e1
    obtain ⟨b, e, q⟩ := h2 o
    rw [h1] at e2
    have : u = .ref a := by simpa using e2
    rw [e] at this
    cases this
    exact q
  have B : Base M H S { G with F := F' } := by
    refine ⟨R.base.len, fun r o a h1 h2 => ?_, R.base.nd, fun a h => ?_, R.base.keep0, fun a h => .inl (R.base.sub0 a h), fun a h => ?_, R.base.pre, R.base.newR⟩
    · have q := R.base.ob r o a h1 h2
      cases o with
      | lst ds =>
        obtain ⟨xs, e, r⟩ := q
        exact ⟨xs, e, RpSs.keep (G' := { G with F := F' }) k ⟨[], by simp⟩ r⟩
      | ins C fs =>
        obtain ⟨ca, dx, vs, e1, e2, r⟩ := q
        exact ⟨ca, dx, vs, e1, e2, RpF.keep (G' := { G with F := F' }) k ⟨[], by simp⟩ r⟩
    · rcases h with h | ⟨i, v, o, _, e1, e2⟩
      · exact R.base.frz a h
      · obtain ⟨_, nr, _, c⟩ := at_ i v a o e1 e2
        obtain ⟨_, _, z⟩ := Cont.there c
        exact ⟨nr, z⟩
    · rcases h with h | ⟨i, v, o, _, e1, e2⟩
      · exact R.base.newF a h
      · exact .inr (at_ i v a o e1 e2).2.2.1
  refine ⟨{ G with F := F' }, ⟨B, R.len, fun i v e => ?_, fun i j v w a oi oj => R.own i j v w a (sub i oi) (sub j oj)⟩, ⟨rfl, rfl, rfl, k, ⟨[], by simp⟩⟩⟩
  obtain ⟨u, h1, h2, h3⟩ := R.slot i v e
  refine ⟨u, h1, fun o => ?_, fun o => ?_⟩
  · obtain ⟨a, e1, nf, nr, h0, c⟩ := h2 (sub i o)
    refine ⟨a, e1, fun f => ?_, nr, h0, Cont.keep k (fun _ e => e) c⟩
    rcases f with f | ⟨j, w, oj, noj, f1, f2⟩
    · exact nf f
    · subst e1
      exact noj (by rw [← R.own i j v w a (sub i o) oj e f1 h1 f2]; exact o)
  · by_cases oi : O.has i
    · obtain ⟨a, e1, nf, nr, h0, c⟩ := h2 oi
      subst e1
      obtain ⟨x, rfl⟩ := Cont.data c
      exact Cont.rp (F := F') (.inr ⟨i, _, oi, o, e, h1⟩) (Cont.keep k (fun _ e => e) c)
    · exact RpS.keep (G' := { G with F := F' }) k ⟨[], by simp⟩ (h3 oi)
theorem Rel.ownWrite (R : Rel M O σ H fr S G) {i : Nat} {v v' : SV} {a : Addr} {o : HO} (ho : O.has i) (e : fr[i]? = some (some v)) (hs : σ[i]? = some (some (V.ref a))) (new : Cont M G.F (upd H a o) a v') :
    Rel M O σ (upd H a o) (fr.set i (some v')) S G ∧ Adv G H G (upd H a o) := by
  obtain ⟨nf, nr, h0, c⟩ : ¬ G.F a ∧ a ∉ G.rho ∧ G.H0 a = none ∧ Cont M G.F H a v := by
    obtain ⟨u, h1, h2, _⟩ := R.slot i v e
    obtain ⟨b, e, q⟩ := h2 ho
    rw [h1] at hs
    have : u = .ref a := by simpa using hs
    rw [e] at this
    cases this
    exact q
  obtain ⟨oa, hoa, fz⟩ := Cont.there c
  have nt : ∀ b, (∃ xs, H b = some (.tup xs)) → b ≠ a := fun b ⟨xs, h⟩ z => by
    subst z
    rcases fz with ⟨_, q⟩ | ⟨_, q⟩ | ⟨_, q⟩ <;> (rw [h] at q; cases q)
  have nz : ∀ b, (∃ o u, H b = some (.frz o u)) → b ≠ a := fun b ⟨_, _, h⟩ z => by
    subst z
    rcases fz with ⟨_, q⟩ | ⟨_, q⟩ | ⟨_, q⟩ <;> (rw [h] at q; cases q)
  have k : Keeps G.F G.F H (upd H a o) := ⟨fun _ h => h, fun b u f h => by rw [upd_ne (show b ≠ a from fun z => nf (by rw [← z]; exact f))]; exact h, fun b xs h => by rw [upd_ne (nt b ⟨xs, h⟩)]; exact h, fun b x u h => by rw [upd_ne (nz b ⟨x, u, h⟩)]; exact h⟩
  have nrho : ∀ b, b ∈ G.rho → b ≠ a := fun b m z => nr (by rw [← z]; exact m)
  have B : Base M (upd H a o) S G := by
    refine ⟨R.base.len, fun r x b h1 h2 => ?_, R.base.nd, fun b h => ?_, fun b u h m => ?_, R.base.sub0, R.base.newF, R.base.pre, R.base.newR⟩
    · have q := R.base.ob r x b h1 h2
      have nb := nrho b (List.mem_of_getElem? h2)
      cases x with
      | lst ds =>
        obtain ⟨xs, e, r⟩ := q
        exact ⟨xs, by rw [upd_ne nb]; exact e, RpSs.keep k ⟨[], by simp⟩ r⟩
      | ins C fs =>
        obtain ⟨ca, dx, vs, e1, e2, r⟩ := q
        exact ⟨ca, dx, vs, e1, by rw [upd_ne nb]; exact e2, RpF.keep k ⟨[], by simp⟩ r⟩
    · obtain ⟨n, q⟩ := R.base.frz b h
      have nb : b ≠ a := fun z => nf (by rw [← z]; exact h)
      refine ⟨n, ?_⟩
      unfold FzOk at q ⊢
      rw [upd_ne nb]
      exact q
    · have nb : b ≠ a := fun z => by rw [z, h0] at h; cases h
      rw [upd_ne nb]
      exact R.base.keep0 b u h m
  have hi : i < fr.length := (List.getElem?_eq_some_iff.mp e).1
  refine ⟨⟨B, by rw [List.length_set]; exact R.len, fun j w f => ?_, fun j l w x b oj ol f1 f2 => ?_⟩, ⟨rfl, rfl, rfl, k, ⟨[], by simp⟩⟩⟩
  · by_cases hj : i = j
    · subst hj
      rw [List.getElem?_set_self hi] at f
      have : v' = w := by simpa using f
      subst this
      refine ⟨.ref a, hs, fun _ => ⟨a, rfl, nf, nr, h0, new⟩, fun n => absurd ho n⟩
    · rw [List.getElem?_set_ne hj] at f
      obtain ⟨u, h1, h2, h3⟩ := R.slot j w f
      refine ⟨u, h1, fun oj => ?_, fun oj => RpS.keep k ⟨[], by simp⟩ (h3 oj)⟩
      obtain ⟨b, e1, nfb, nrb, h0b, cb⟩ := h2 oj
      have nb : b ≠ a := fun z => by
        subst z
        subst e1
        exact hj (R.own i j v w b ho oj e f hs h1)
      exact ⟨b, e1, nfb, nrb, h0b, Cont.keep k (fun _ q => by rw [upd_ne nb]; exact q) cb⟩
  · have back : ∀ {m : Nat} {y : SV}, (fr.set i (some v'))[m]? = some (some y) → ∃ z, fr[m]? = some (some z) := fun {m y} f => by
      by_cases hm : i = m
      · subst hm; exact ⟨v, e⟩
      · rw [List.getElem?_set_ne hm] at f; exact ⟨y, f⟩
    obtain ⟨z1, g1⟩ := back f1
    obtain ⟨z2, g2⟩ := back f2
    exact R.own j l z1 z2 b oj ol g1 g2
theorem Rel.store (R : Rel M O σ H fr S G) {i : Nat} {v : SV} {u : V} (hi : i < σ.length) (r : RpS M G H v u) : Rel M (O.set i false) (σ.set i (some u)) H (fr.set i (some v)) S G := by
  have hfi : i < fr.length := by rw [R.len]; exact hi
  have oset : ∀ j, Own.has (O.set i false) j → j ≠ i ∧ O.has j := fun j h => by
    unfold Own.has at h ⊢
    by_cases e : i = j
    · subst e
      by_cases hl : i < O.length
      · rw [List.getElem?_set_self hl] at h; cases h
      · rw [List.getElem?_eq_none (by simpa using hl)] at h; cases h
    · rw [List.getElem?_set_ne e] at h
      exact ⟨fun z => e z.symm, h⟩
  refine ⟨R.base, by simp [R.len], fun j w f => ?_, fun j l w x a oj ol f1 f2 g1 g2 => ?_⟩
  · by_cases hj : i = j
    · subst hj
      rw [List.getElem?_set_self hfi] at f
      have : v = w := by simpa using f
      subst this
      exact ⟨u, List.getElem?_set_self hi, fun o => absurd rfl (oset i o).1, fun _ => r⟩
    · rw [List.getElem?_set_ne hj] at f
      obtain ⟨y, h1, h2, h3⟩ := R.slot j w f
      refine ⟨y, by rw [List.getElem?_set_ne hj]; exact h1, fun o => h2 (oset j o).2, fun o => h3 fun z => o ?_⟩
      show (O.set i false)[j]? = some true
      rw [List.getElem?_set_ne hj]
      exact z
  · obtain ⟨n1, o1⟩ := oset j oj
    obtain ⟨n2, o2⟩ := oset l ol
    rw [List.getElem?_set_ne (Ne.symm n1)] at f1 g1
    rw [List.getElem?_set_ne (Ne.symm n2)] at f2 g2
    exact R.own j l w x a o1 o2 f1 f2 g1 g2
theorem Rel.storeOwn (R : Rel M O σ H fr S G) {i : Nat} {v : SV} {a : Addr} (hi : i < σ.length) (hiO : i < O.length) (nf : ¬ G.F a) (nr : a ∉ G.rho) (h0 : G.H0 a = none) (c : Cont M G.F H a v)
    (no : ∀ j w, O.has j → fr[j]? = some (some w) → σ[j]? ≠ some (some (V.ref a))) : Rel M (O.set i true) (σ.set i (some (.ref a))) H (fr.set i (some v)) S G := by
  have hfi : i < fr.length := by rw [R.len]; exact hi
  have oset : ∀ j, j ≠ i → Own.has (O.set i true) j → O.has j := fun j e h => by
    unfold Own.has at h ⊢
    rw [List.getElem?_set_ne (Ne.symm e)] at h
    exact h
  refine ⟨R.base, by simp [R.len], fun j w f => ?_, fun j l w x b oj ol f1 f2 g1 g2 => ?_⟩
  · by_cases hj : i = j
    · subst hj
      rw [List.getElem?_set_self hfi] at f
      have : v = w := by simpa using f
      subst this
      exact ⟨.ref a, List.getElem?_set_self hi, fun _ => ⟨a, rfl, nf, nr, h0, c⟩, fun n => absurd (List.getElem?_set_self hiO) n⟩
    · rw [List.getElem?_set_ne hj] at f
      obtain ⟨y, h1, h2, h3⟩ := R.slot j w f
      refine ⟨y, by rw [List.getElem?_set_ne hj]; exact h1, fun o => h2 (oset j (Ne.symm hj) o), fun o => h3 fun z => o ?_⟩
      show (O.set i true)[j]? = some true
      rw [List.getElem?_set_ne hj]
      exact z
  · by_cases hj : j = i
    · by_cases hl : l = i
      · rw [hj, hl]
      · subst hj
        rw [List.getElem?_set_self hi] at g1
        have e1 : a = b := by simpa using g1
        subst e1
        rw [List.getElem?_set_ne (Ne.symm hl)] at f2 g2
        exact absurd g2 (no l x (oset l hl ol) f2)
    · by_cases hl : l = i
      · subst hl
        rw [List.getElem?_set_self hi] at g2
        have e1 : a = b := by simpa using g2
        subst e1
        rw [List.getElem?_set_ne (Ne.symm hj)] at f1 g1
        exact absurd g1 (no j w (oset j hj oj) f1)
      · rw [List.getElem?_set_ne (Ne.symm hj)] at f1 g1
        rw [List.getElem?_set_ne (Ne.symm hl)] at f2 g2
        exact R.own j l w x b (oset j hj oj) (oset l hl ol) f1 f2 g1 g2
theorem Base.write (B : Base M H S G) {a : Addr} {o : HO} (nf : ¬ G.F a) (nr : a ∉ G.rho) (h0 : G.H0 a = none) (fz : FzOk M H a) : Base M (upd H a o) S G ∧ Keeps G.F G.F H (upd H a o) := by
  have nt : ∀ b, (∃ xs, H b = some (.tup xs)) → b ≠ a := fun b ⟨xs, h⟩ z => by
    subst z
    rcases fz with ⟨_, q⟩ | ⟨_, q⟩ | ⟨_, q⟩ <;> (rw [h] at q; cases q)
  have nz : ∀ b, (∃ o u, H b = some (.frz o u)) → b ≠ a := fun b ⟨_, _, h⟩ z => by
    subst z
    rcases fz with ⟨_, q⟩ | ⟨_, q⟩ | ⟨_, q⟩ <;> (rw [h] at q; cases q)
  have k : Keeps G.F G.F H (upd H a o) := ⟨fun _ h => h, fun b u f h => by rw [upd_ne (show b ≠ a from fun z => nf (by rw [← z]; exact f))]; exact h, fun b xs h => by rw [upd_ne (nt b ⟨xs, h⟩)]; exact h, fun b x u h => by rw [upd_ne (nz b ⟨x, u, h⟩)]; exact h⟩
  refine ⟨⟨B.len, fun r x b h1 h2 => ?_, B.nd, fun b h => ?_, fun b u h m => ?_, B.sub0, B.newF, B.pre, B.newR⟩, k⟩
  · have q := B.ob r x b h1 h2
    have nb : b ≠ a := fun z => nr (by rw [← z]; exact List.mem_of_getElem? h2)
    cases x with
    | lst ds =>
      obtain ⟨xs, e, r⟩ := q
      exact ⟨xs, by rw [upd_ne nb]; exact e, RpSs.keep k ⟨[], by simp⟩ r⟩
    | ins C fs =>
      obtain ⟨ca, dx, vs, e1, e2, r⟩ := q
      exact ⟨ca, dx, vs, e1, by rw [upd_ne nb]; exact e2, RpF.keep k ⟨[], by simp⟩ r⟩
  · obtain ⟨n, q⟩ := B.frz b h
    have nb : b ≠ a := fun z => nf (by rw [← z]; exact h)
    refine ⟨n, ?_⟩
    unfold FzOk at q ⊢
    rw [upd_ne nb]
    exact q
  · have nb : b ≠ a := fun z => by rw [z, h0] at h; cases h
    rw [upd_ne nb]
    exact B.keep0 b u h m
theorem Base.new0 (B : Base M H S G) {a : Addr} (h : H a = none) : G.H0 a = none ∧ a ∉ G.rho ∧ ¬ G.F a := by
  have nr : a ∉ G.rho := fun m => by
    obtain ⟨x, q⟩ := B.rho_get m
    rcases q.some with ⟨ys, e⟩ | ⟨_, _, _, e⟩ <;> (rw [h] at e; cases e)
  have nr0 : a ∉ G.rho0 := fun m => nr (by obtain ⟨more, e⟩ := B.pre; rw [e]; exact List.mem_append_left _ m)
  refine ⟨?_, nr, fun f => ?_⟩
  · cases q : G.H0 a with
    | none => rfl
    | some u =>
      have := B.keep0 a u q nr0
      rw [h] at this; cases this
  · rcases (B.frz a f).2 with ⟨_, q⟩ | ⟨_, q⟩ | ⟨_, q⟩ <;> (rw [h] at q; cases q)
structure Tmp (M : Mo) (H : Hp) (a : Addr) (v : SV) (G' : Gh) (H' : Hp) : Prop where
  new : H a = none
  nf : ¬ G'.F a
  nr : a ∉ G'.rho
  cont : Cont M G'.F H' a v
theorem Tmp.step {H2 : Hp} {G2 : Gh} {a : Addr} {v : SV} (t : Tmp M H a v G' H') (B : Base M H' S' G') (st : Stp G' H' G2 H2) : Tmp M H a v G2 H2 := by
  obtain ⟨o, ho, _⟩ := Cont.there t.cont
  have hne : H' a ≠ none := fun z => by rw [z] at ho; cases ho
  exact ⟨t.new, fun f => (st.newF a f).elim t.nf hne, fun m => (st.newR a m).elim t.nr hne, Cont.keep (B.keeps st) (fun o e => st.keep _ _ e t.nr) t.cont⟩
theorem Stp.upd_new (st : Stp G H G' H') {a : Addr} {o : HO} (h : H a = none) : Stp G H G' (upd H' a o) where
  h0 := st.h0
  f0 := st.f0
  r0 := st.r0
  sub := st.sub
  newF := st.newF
  pre := st.pre
  newR := st.newR
  keep := fun b u e n => by
    rw [upd_ne (show b ≠ a from fun z => by rw [z, h] at e; cases e)]
    exact st.keep b u e n
  there := fun b e => by
    by_cases z : b = a
    · rw [z]; exact h
    · rw [upd_ne z] at e
      exact st.there b e
theorem Rel.own_there (R : Rel M O σ H fr S G) {i : Nat} {v : SV} {a : Addr} (ho : O.has i) (e : fr[i]? = some (some v)) (hs : σ[i]? = some (some (V.ref a))) : H a ≠ none := by
  obtain ⟨u, h1, h2, _⟩ := R.slot i v e
  obtain ⟨b, e', _, _, _, c⟩ := h2 ho
  rw [h1] at hs
  have : u = .ref a := by simpa using hs
  rw [e'] at this
  cases this
  obtain ⟨o, q, _⟩ := Cont.there c
  rw [q]
  simp
theorem Rel.tmpWrite {G1 : Gh} {H1 : Hp} {S1 : Store} (R1 : Rel M O σ H1 fr S1 G1) (R : Rel M O σ H fr S G) (st : Stp G1 H1 G H) {a : Addr} {v : SV} {o : HO} (t : Tmp M H1 a v G H) :
    Rel M O σ (upd H a o) fr S G ∧ Stp G1 H1 G (upd H a o) ∧ Keeps G.F G.F H (upd H a o) := by
  obtain ⟨_, _, fz⟩ := Cont.there t.cont
  have n0 : G.H0 a = none := by rw [st.h0]; exact (R1.base.new0 t.new).1
  obtain ⟨B, k⟩ := R.base.write (o := o) t.nf t.nr n0 fz
  refine ⟨⟨B, R.len, fun j w f => ?_, R.own⟩, st.upd_new t.new, k⟩
  obtain ⟨u, h1, h2, h3⟩ := R.slot j w f
  refine ⟨u, h1, fun oj => ?_, fun oj => RpS.keep k ⟨[], by simp⟩ (h3 oj)⟩
  obtain ⟨b, e1, nfb, nrb, h0b, cb⟩ := h2 oj
  have nb : b ≠ a := fun z => by
    subst z
    subst e1
    exact R1.own_there oj f h1 t.new
  exact ⟨b, e1, nfb, nrb, h0b, Cont.keep k (fun _ q => by rw [upd_ne nb]; exact q) cb⟩
theorem Rel.tmpFreeze {G1 : Gh} {H1 : Hp} (R : Rel M O σ H fr S G) (st : Stp G1 H1 G H) {a : Addr} {x : PyData} (t : Tmp M H1 a (.d x) G H) (R1 : ∀ i v, O.has i → fr[i]? = some (some v) → σ[i]? ≠ some (some (V.ref a))) (n0 : G.H0 a = none) :
    ∃ G2, Rel M O σ H fr S G2 ∧ Stp G1 H1 G2 H ∧ RpS M G2 H (.d x) (.ref a) := by
  let F' : Addr → Prop := fun b => G.F b ∨ b = a
  have k : Keeps G.F F' H H := ⟨fun a h => .inl h, fun _ _ _ h => h, fun _ _ h => h, fun _ _ _ h => h⟩
  obtain ⟨_, _, fz⟩ := Cont.there t.cont
  have B : Base M H S { G with F := F' } := by
    refine ⟨R.base.len, fun r o b h1 h2 => ?_, R.base.nd, fun b h => ?_, R.base.keep0, fun b h => .inl (R.base.sub0 b h), fun b h => ?_, R.base.pre, R.base.newR⟩
    · have q := R.base.ob r o b h1 h2
      cases o with
      | lst ds =>
        obtain ⟨xs, e, r⟩ := q
        exact ⟨xs, e, RpSs.keep (G' := { G with F := F' }) k ⟨[], by simp⟩ r⟩
      | ins C fs =>
        obtain ⟨ca, dx, vs, e1, e2, r⟩ := q
        exact ⟨ca, dx, vs, e1, e2, RpF.keep (G' := { G with F := F' }) k ⟨[], by simp⟩ r⟩
    · rcases h with h | h
      · exact R.base.frz b h
      · subst h; exact ⟨t.nr, fz⟩
    · rcases h with h | h
      · exact R.base.newF b h
      · subst h; exact .inr n0
  refine ⟨{ G with F := F' }, ⟨B, R.len, fun j w f => ?_, R.own⟩, ⟨st.h0, st.f0, st.r0, fun b h => .inl (st.sub b h), fun b h => ?_, st.pre, st.newR, st.keep, st.there⟩, Cont.rp (F := F') (.inr rfl) (Cont.keep k (fun _ e => e) t.cont)⟩
  · obtain ⟨u, h1, h2, h3⟩ := R.slot j w f
    refine ⟨u, h1, fun oj => ?_, fun oj => RpS.keep (G' := { G with F := F' }) k ⟨[], by simp⟩ (h3 oj)⟩
    obtain ⟨b, e1, nfb, nrb, h0b, cb⟩ := h2 oj
    refine ⟨b, e1, fun z => z.elim nfb fun z => ?_, nrb, h0b, Cont.keep k (fun _ e => e) cb⟩
    subst z
    subst e1
    exact R1 j w oj f h1
  · rcases h with h | h
    · exact st.newF b h
    · subst h; exact .inr t.new
end
end PD
namespace PD
open PySem PySem.Spec PyProof.Rows L2
def Mo.of (X : Cx) : Mo := ⟨X.w, X.K, X.mg⟩
def XRep (M : Mo) (G : Gh) (H : Hp) (x : Exc) (cls : Value) (d : Option Addr) : Prop :=
  ∃ ca, M.mg x.cls = some (.ref ca) ∧ cls = .ref ca ∧
    ((x.flds = none ∧ d = none) ∨ ∃ fs da vs, x.flds = some fs ∧ d = some da ∧ H da = some (.xd vs) ∧ RpF M G H fs vs)
structure Pst {α β : Type} (M : Mo) (W : WX) (O : Own) (σ : L2.St) (H : Hp) (fr : Fr) (G : Gh) (r : Rs α) (rel : Gh → Hp → α → β → Prop) (Q : β → Hp → Prop) : Prop where
  good : r ≠ .bad
  ok : ∀ (z : α) (S' : Store), r = .ok z S' → ∀ (u : β) (H' : Hp) (G' : Gh), Rel M O σ H' fr S' G' → Stp G H G' H' → rel G' H' z u → Q u H'
  exc : ∀ (x : Exc) (S' : Store), r = .exc x S' → ∀ (H' : Hp) (G' : Gh) (cls : Value) (d : Option Addr), Rel M O σ H' fr S' G' → Stp G H G' H' → XRep M G' H' x cls d → W cls d σ H'
section
variable {M : Mo} {W : WX} {O : Own} {σ : L2.St} {H : Hp} {fr : Fr} {S : Store} {G : Gh}
theorem Pst.split {α α' β β' : Type} {r : Rs α} {f : α → Store → Rs β} {relA : Gh → Hp → α → α' → Prop} {relB : Gh → Hp → β → β' → Prop} {QB : β' → Hp → Prop} {QA : α' → Hp → Prop}
    (h : Pst M W O σ H fr G (r.bind f) relB QB)
    (next : ∀ (z : α) (S1 : Store) (u : α') (H1 : Hp) (G1 : Gh), Rel M O σ H1 fr S1 G1 → Stp G H G1 H1 → relA G1 H1 z u → Pst M W O σ H1 fr G1 (f z S1) relB QB → QA u H1) :
    Pst M W O σ H fr G r relA QA := by
  refine ⟨fun e => h.good (by rw [e]; rfl), fun z S1 e u H1 G1 R1 st1 q => ?_, fun x S1 e H1 G1 cls d R1 st1 q => h.exc x S1 (by rw [e]; rfl) H1 G1 cls d R1 st1 q⟩
  have hb : r.bind f = f z S1 := by rw [e]; rfl
  rw [hb] at h
  exact next z S1 u H1 G1 R1 st1 q ⟨h.good, fun z2 S2 e2 u2 H2 G2 R2 st2 q2 => h.ok z2 S2 e2 u2 H2 G2 R2 (st1.trans st2) q2, fun x S2 e2 H2 G2 cls d R2 st2 q2 => h.exc x S2 e2 H2 G2 cls d R2 (st1.trans st2) q2⟩
theorem Pst.fin {α β : Type} {z : α} {rel : Gh → Hp → α → β → Prop} {Q : β → Hp → Prop} (h : Pst M W O σ H fr G (.ok z S) rel Q) {u : β} {H' : Hp} {G' : Gh} (R : Rel M O σ H' fr S G') (st : Stp G H G' H') (q : rel G' H' z u) : Q u H' :=
  h.ok z S rfl u H' G' R st q
theorem Pst.here {α β : Type} {z : α} {rel : Gh → Hp → α → β → Prop} {Q : β → Hp → Prop} (h : Pst M W O σ H fr G (.ok z S) rel Q) (R : Rel M O σ H fr S G) {u : β} (q : rel G H z u) : Q u H :=
  h.fin R Stp.refl q
theorem Pst.not_bad {α β : Type} {rel : Gh → Hp → α → β → Prop} {Q : β → Hp → Prop} (h : Pst M W O σ H fr G (.bad : Rs α) rel Q) : False := h.good rfl
end
inductive RpV (M : Mo) (G : Gh) (H : Hp) : SV → V → Prop
  | val {x : SV} {u : V} : RpS M G H x u → RpV M G H x u
  | own {a : Addr} {ds : List PyData} {vs : List V} : a ∉ G.rho → H a = some (.lst vs) → RpAll M G.F H ds vs → RpV M G H (.d (.list ds)) (.ref a)
  | ownD {a : Addr} {ds : List (PyData × PyData)} : a ∉ G.rho → Cont M G.F H a (.d (.dict ds)) → RpV M G H (.d (.dict ds)) (.ref a)
abbrev RpVs (M : Mo) (G : Gh) (H : Hp) : List SV → List V → Prop := Paired (RpV M G H)
section
variable {M : Mo} {G G' : Gh} {H H' : Hp} {u : V}
theorem RpV.int {i : Int} (h : RpV M G H (.d (.int i)) u) : u = .int i := by
  cases h with
  | val h => cases h; rfl
theorem RpV.str {z : Str} (h : RpV M G H (.d (.str z)) u) : u = .str z := by
  cases h with
  | val h => cases h; rfl
theorem RpV.bl {b : Bool} (h : RpV M G H (.d (.bool b)) u) : u = .bl b := by
  cases h with
  | val h => cases h; rfl
theorem RpV.non (h : RpV M G H (.d .none) u) : u = .non := by
  cases h with
  | val h => cases h; rfl
theorem RpV.lst {ds : List PyData} (h : RpV M G H (.d (.list ds)) u) : ∃ a vs, u = .ref a ∧ H a = some (.lst vs) ∧ RpAll M G.F H ds vs := by
  cases h with
  | val h =>
    cases h with
    | lst f q r => exact ⟨_, _, rfl, q, r⟩
  | own _ q r => exact ⟨_, _, rfl, q, r⟩
theorem RpV.tup {ds : List PyData} (h : RpV M G H (.d (.tuple ds)) u) : ∃ a vs, u = .ref a ∧ SqT M.K H a vs ∧ RpAll M G.F H ds vs := by
  cases h with
  | val h =>
    cases h with
    | tup q r => exact ⟨_, _, rfl, q, r⟩
theorem RpV.obj {r : Nat} (h : RpV M G H (.obj r) u) : RpS M G H (.obj r) u := by
  cases h with
  | val h => exact h
theorem RpV.any {d : PyData} (h : RpV M G H (.d d) u) : ∃ F, Rp M F H d u := by
  cases h with
  | val h => exact ⟨_, h⟩
  | @own a ds vs _ q r =>
    have k : Keeps G.F (fun b => G.F b ∨ b = a) H H := ⟨fun _ h => .inl h, fun _ _ _ h => h, fun _ _ h => h, fun _ _ _ h => h⟩
    exact ⟨_, .lst (.inr rfl) q (RpAll.keep k r)⟩
  | @ownD a ds _ c =>
    have k : Keeps G.F (fun b => G.F b ∨ b = a) H H := ⟨fun _ h => .inl h, fun _ _ _ h => h, fun _ _ h => h, fun _ _ _ h => h⟩
    exact ⟨_, Cont.rp (.inr rfl) (Cont.keep k (fun _ e => e) c)⟩
theorem RpV.step {S : Store} {x : SV} (B : Base M H S G) (st : Stp G H G' H') (h : RpV M G H x u) : RpV M G' H' x u := by
  cases h with
  | val h => exact .val (B.rps st h)
  | own n q r =>
    refine .own (fun m => (st.newR _ m).elim n fun z => by rw [z] at q; cases q) (st.keep _ _ q n) (RpAll.keep (B.keeps st) r)
  | ownD n c =>
    obtain ⟨o, e, _⟩ := Cont.there c
    exact .ownD (fun m => (st.newR _ m).elim n fun z => by rw [z] at e; cases e) (Cont.keep (B.keeps st) (fun o e => st.keep _ _ e n) c)
theorem RpVs.step {S : Store} {xs : List SV} {us : List V} (B : Base M H S G) (st : Stp G H G' H') (h : RpVs M G H xs us) : RpVs M G' H' xs us := Paired.mapP h fun _ _ q => q.step B st
theorem RpVs.of {xs : List SV} {us : List V} (h : RpSs M G H xs us) : RpVs M G H xs us := Paired.mapP h fun _ _ q => .val q
end
def tM (M : Mo) (W : WX) (O : Own) (m : EM) : TE := fun σ H Q => ∃ fr S G, Rel M O σ H fr S G ∧ Pst M W O σ H fr G (m fr S) (RpS M) Q
def tV (M : Mo) (W : WX) (O : Own) (m : EM) : TE := fun σ H Q => ∃ fr S G, Rel M O σ H fr S G ∧ Pst M W O σ H fr G (m fr S) (RpV M) Q
def tAV (M : Mo) (W : WX) (O : Own) (m : AM) : TA := fun σ H Q => ∃ fr S G, Rel M O σ H fr S G ∧ Pst M W O σ H fr G (m fr S) (RpVs M) Q
def tT (M : Mo) (W : WX) (O : Own) (m : TMt) : TT := fun σ H Q => ∃ fr S G, Rel M O σ H fr S G ∧ Pst M W O σ H fr G (m fr S) (fun _ _ b c => b = c) Q
def tA (M : Mo) (W : WX) (O : Own) (m : AM) : TA := fun σ H Q => ∃ fr S G, Rel M O σ H fr S G ∧ Pst M W O σ H fr G (m fr S) (RpSs M) Q
def CE (X : Cx) (W : WX) (O : Own) (e : Expr) (m : EM) : Prop := PE X e (tM (.of X) W O m)
def CV (X : Cx) (W : WX) (O : Own) (e : Expr) (m : EM) : Prop := PE X e (tV (.of X) W O m)
def CAV (X : Cx) (W : WX) (O : Own) (es : List Expr) (m : AM) : Prop := PA X es (tAV (.of X) W O m)
def CT (X : Cx) (W : WX) (O : Own) (e : Expr) (m : TMt) : Prop := PT X e (tT (.of X) W O m)
def CW (X : Cx) (W : WX) (O : Own) (e : Expr) (m : TMt) : Prop := L2.PW X e (tT (.of X) W O m)
def CA (X : Cx) (W : WX) (O : Own) (es : List Expr) (m : AM) : Prop := PA X es (tA (.of X) W O m)
theorem peI {X : Cx} {e : Expr} {t t' : TE} (h : PE X e t) (i : ∀ σ H Q, t' σ H Q → t σ H Q) : PE X e t' := ⟨fun pins s σ H Q I q => h.run pins s σ H Q I (i σ H Q q)⟩
theorem ptI {X : Cx} {e : Expr} {t t' : TT} (h : PT X e t) (i : ∀ σ H Q, t' σ H Q → t σ H Q) : PT X e t' := ⟨fun pins s σ H Q I q => h.run pins s σ H Q I (i σ H Q q)⟩
theorem pwI {X : Cx} {e : Expr} {t t' : TT} (h : L2.PW X e t) (i : ∀ σ H Q, t' σ H Q → t σ H Q) : L2.PW X e t' := ⟨fun wh pins s σ H Q I q => h.run wh pins s σ H Q I (i σ H Q q)⟩
theorem paI {X : Cx} {es : List Expr} {t t' : TA} (h : PA X es t) (i : ∀ σ H Q, t' σ H Q → t σ H Q) : PA X es t' := ⟨fun pos pins s σ H Q I q => h.run pos pins s σ H Q I (i σ H Q q)⟩
def eC (x : PyData) : EM := fun _ S => .ok (.d x) S
def eV (i : Nat) : EM := fun fr S => match fr[i]? with
  | some (some v) => .ok v S
  | _ => .bad
def e1 (p : SV → Store → Rs SV) (a : EM) : EM := fun fr S => (a fr S).bind fun x S1 => p x S1
def e2 (p : SV → SV → Store → Rs SV) (a b : EM) : EM := fun fr S => (a fr S).bind fun x S1 => (b fr S1).bind fun y S2 => p x y S2
def aN : AM := fun _ S => .ok [] S
def aC (a : EM) (r : AM) : AM := fun fr S => (a fr S).bind fun x S1 => (r fr S1).bind fun xs S2 => .ok (x :: xs) S2
def eA (p : List SV → Store → Rs SV) (a : AM) : EM := fun fr S => (a fr S).bind fun xs S1 => p xs S1
def asD : SV → Option PyData
  | .d x => some x
  | _ => none
def asDs : List SV → Option (List PyData)
  | [] => some []
  | .d x :: r => (asDs r).map (x :: ·)
  | _ :: _ => none
def mkTup : List SV → Store → Rs SV := fun xs S => match asDs xs with
  | some ds => if ds.length ≤ sizeLine then .ok (.d (.tuple ds)) S else .bad
  | none => .bad
def mkLst : List SV → Store → Rs SV := fun xs S => match asDs xs with
  | some ds => if ds.length ≤ sizeLine then .ok (.d (.list ds)) S else .bad
  | none => .bad
section
variable {X : Cx} {W : WX} {O : Own} {pos : Pos}
theorem ce_C {e : Expr} {v : V} {x : PyData} (h : PE X e (tC v)) (r : ∀ F H, Rp (.of X) F H x v) : CE X W O e (eC x) := peI h fun σ H Q ⟨fr, S, G, R, p⟩ => p.here (u := v) R (r _ _)
theorem ce_int {i : Int} {j pos} : CE X W O (.Constant (.int i) j pos) (eC (.int i)) := ce_C pe_int fun _ _ => .int i
theorem ce_str {x : Str} {j pos} : CE X W O (.Constant (.str x) j pos) (eC (.str x)) := ce_C pe_str fun _ _ => .str x
theorem ce_bl {b : Bool} {j pos} : CE X W O (.Constant (.bool b) j pos) (eC (.bool b)) := ce_C pe_bl fun _ _ => .bl b
theorem ce_non {j pos} : CE X W O (.Constant .none j pos) (eC .none) := ce_C pe_non fun _ _ => .non
theorem ce_glob {x : Str} {v : V} {u : Value} {d : PyData} (hg : Gl X x) (hm : X.mg x = some u) (r : RelV v u) (rd : ∀ F H, Rp (.of X) F H d v) (hd : (x == ("__debug__" : Str)) = false := by decide) : CE X W O (.Name x pos) (eC d) := ce_C (pe_glob hg hm r hd) rd
theorem ce_var (i : Nat) {x : Str} (ho : (O[i]? == some true) = false := by rfl) (hN : X.N[i]? = some x := by rfl) (hv : Vis X.env.scope x := by first | exact Or.inl rfl | exact Or.inr (Or.inl rfl) | exact Or.inr (Or.inr rfl)) (hd : (x == ("__debug__" : Str)) = false := by decide)
    (hcd : (x == ("__classdict__" : Str)) = false := by decide) : CE X W O (.Name x pos) (eV i) := by
  refine peI (pe_var hN hv hd hcd) fun σ H Q ⟨fr, S, G, R, p⟩ => ?_
  have hno : ¬ O.has i := fun h => by
    have h' : O[i]? = some true := h
    rw [h'] at ho
    cases ho
  cases e : fr[i]? with
  | none => exact (Pst.not_bad (by simpa [eV, e] using p)).elim
  | some w =>
    cases w with
    | none => exact (Pst.not_bad (by simpa [eV, e] using p)).elim
    | some v =>
      have p' : Pst (.of X) W O σ H fr G (Rs.ok v S) (RpS (.of X)) Q := by simpa [eV, e] using p
      obtain ⟨u, h1, _, h3⟩ := R.slot i v e
      exact ⟨u, h1, p'.here R (h3 hno)⟩
def P1 (M : Mo) (r : V → Hp → VK → Prop) (p : SV → Store → Rs SV) : Prop := ∀ {W : WX} {O : Own} {σ : L2.St} {H : Hp} {fr : Fr} {S : Store} {G : Gh} {x : SV} {u : V} {Q : VK},
  Rel M O σ H fr S G → RpV M G H x u → Pst M W O σ H fr G (p x S) (RpS M) Q → r u H Q
def P2 (M : Mo) (r : R2) (p : SV → SV → Store → Rs SV) : Prop := ∀ {W : WX} {O : Own} {σ : L2.St} {H : Hp} {fr : Fr} {S : Store} {G : Gh} {x y : SV} {u v : V} {Q : VK},
  Rel M O σ H fr S G → RpV M G H x u → RpV M G H y v → Pst M W O σ H fr G (p x y S) (RpS M) Q → r u v H Q
def PN (M : Mo) (r : List V → Hp → VK → Prop) (p : List SV → Store → Rs SV) : Prop := ∀ {W : WX} {O : Own} {σ : L2.St} {H : Hp} {fr : Fr} {S : Store} {G : Gh} {xs : List SV} {us : List V} {Q : VK},
  Rel M O σ H fr S G → RpVs M G H xs us → Pst M W O σ H fr G (p xs S) (RpS M) Q → r us H Q
theorem cv_of {e : Expr} {m : EM} (h : CE X W O e m) : CV X W O e m := peI h fun σ H Q ⟨fr, S, G, R, h⟩ => ⟨fr, S, G, R, h.good, fun z S' e u H' G' R' st r => h.ok z S' e u H' G' R' st (.val r), h.exc⟩
theorem two {ma mb : EM} {r : R2} {p : SV → SV → Store → Rs SV} (hp : P2 (.of X) r p) {σ : L2.St} {H : Hp} {Q : VK} (h : tM (.of X) W O (e2 p ma mb) σ H Q) : tOp r (tV (.of X) W O ma) (tV (.of X) W O mb) σ H Q := by
  obtain ⟨fr, S, G, R, h⟩ := h
  exact ⟨fr, S, G, R, h.split fun x S1 u H1 G1 R1 st1 rx h1 => ⟨fr, S1, G1, R1, h1.split fun y S2 v H2 G2 R2 st2 ry h2 => hp R2 (rx.step R1.base st2) ry h2⟩⟩
theorem ce_op {a b : Expr} {op : Operator} {r : R2} {p : SV → SV → Store → Rs SV} {ma mb : EM} (ho : OpR X (binaryOp op) r) (hp : P2 (.of X) r p) (ha : CV X W O a ma) (hb : CV X W O b mb) : CE X W O (.BinOp a op b pos) (e2 p ma mb) :=
  peI (pe_op ho ha hb) fun σ H Q h => two hp h
theorem ce_cmp {a b : Expr} {op : CmpOp} {r : R2} {p : SV → SV → Store → Rs SV} {ma mb : EM} (ho : OpR X (compareOp op) r) (hp : P2 (.of X) r p) (ha : CV X W O a ma) (hb : CV X W O b mb) (hm : behindInMarks op b = false) : CE X W O (.Compare a [op] [b] pos) (e2 p ma mb) :=
  peI (pe_cmpR ho ha hb hm) fun σ H Q h => two hp h
theorem ce_un {a : Expr} {op : UnaryOp} {r : V → Hp → VK → Prop} {p : SV → Store → Rs SV} {ma : EM} (ho : UnR X (unaryOp op) r) (hp : P1 (.of X) r p) (ha : CV X W O a ma) : CE X W O (.UnaryOp op a pos) (e1 p ma) :=
  peI (pe_un ho ha) fun σ H Q ⟨fr, S, G, R, h⟩ => ⟨fr, S, G, R, h.split fun x S1 u H1 G1 R1 st1 rx h1 => hp R1 rx h1⟩
theorem ce_ix {a b : Expr} {r : R2} {p : SV → SV → Store → Rs SV} {ma mb : EM} (ho : IxR X r) (hp : P2 (.of X) r p) (ha : CV X W O a ma) (hb : CV X W O b mb) (hs : PlainIx b) : CE X W O (.Subscript a b pos) (e2 p ma mb) :=
  peI (pe_ix ho ha hb hs) fun σ H Q h => two hp h
theorem cav_nil : CAV X W O [] aN := paI pa_nil fun σ H Q ⟨fr, S, G, R, h⟩ => h.here R .nil
theorem cav_cons {e : Expr} {es : List Expr} {m : EM} {n : AM} (he : CV X W O e m) (hr : CAV X W O es n) (hs : starEach (e :: es) X.env = (false, eval e X.env) :: starEach es X.env := by rfl) : CAV X W O (e :: es) (aC m n) :=
  paI (pa_cons he hr hs) fun σ H Q ⟨fr, S, G, R, h⟩ => ⟨fr, S, G, R, h.split fun x S1 u H1 G1 R1 st1 rx h1 => ⟨fr, S1, G1, R1, h1.split fun xs S2 us H2 G2 R2 st2 rs h2 => h2.here R2 (.cons (rx.step R1.base st2) rs)⟩⟩
theorem ca_nil : CA X W O [] aN := paI pa_nil fun σ H Q ⟨fr, S, G, R, h⟩ => h.here R .nil
theorem ca_cons {e : Expr} {es : List Expr} {m : EM} {n : AM} (he : CE X W O e m) (hr : CA X W O es n) (hs : starEach (e :: es) X.env = (false, eval e X.env) :: starEach es X.env := by rfl) : CA X W O (e :: es) (aC m n) :=
  paI (pa_cons he hr hs) fun σ H Q ⟨fr, S, G, R, h⟩ => ⟨fr, S, G, R, h.split fun x S1 u H1 G1 R1 st1 rx h1 => ⟨fr, S1, G1, R1, h1.split fun xs S2 us H2 G2 R2 st2 rs h2 => h2.here R2 (.cons (R1.base.rps st2 rx) rs)⟩⟩
end
theorem RpSs.data {M : Mo} {G : Gh} {H : Hp} : ∀ {xs : List SV} {us : List V} {ds : List PyData}, RpSs M G H xs us → asDs xs = some ds → RpAll M G.F H ds us
  | [], _, _, .nil, e => by cases e; exact .nil
  | .d x :: r, _, ds, .cons h t, e => by
    cases q : asDs r with
    | none => simp [asDs, q] at e
    | some es =>
      have e' : x :: es = ds := by simpa [asDs, q] using e
      subst e'
      exact .cons h (RpSs.data t q)
  | .obj _ :: _, _, _, .cons _ _, e => by simp [asDs] at e
  | .scr _ :: _, _, _, .cons _ _, e => by simp [asDs] at e
section
variable {X : Cx} {W : WX} {O : Own} {pos : Pos}
theorem ce_tup {es : List Expr} {m : AM} {x1} (h : CA X W O es m) : CE X W O (.Tuple es x1 pos) (eA mkTup m) := by
  refine peI (pe_tup h) fun σ H Q ⟨fr, S, G, R, h⟩ => ⟨fr, S, G, R, h.split fun xs S1 us H1 G1 R1 st1 rs h1 => ?_⟩
  cases e : asDs xs with
  | none => exact (Pst.not_bad (by simpa [mkTup, e] using h1)).elim
  | some ds =>
    have r := rs.data e
    by_cases z : ds.length ≤ sizeLine
    · have h1' : Pst (.of X) W O σ H1 fr G1 (Rs.ok (.d (.tuple ds)) S1) (RpS (.of X)) Q := by simpa [mkTup, e, z] using h1
      refine ⟨by rw [← r.length]; exact z, fun p hp => ?_⟩
      obtain ⟨R2, st2, q⟩ := R1.newT hp r
      exact h1'.fin R2 st2 q
    · exact (Pst.not_bad (by simpa [mkTup, e, z] using h1)).elim
theorem ce_lst {es : List Expr} {m : AM} (h : CA X W O es m) : CE X W O (.List es pos) (eA mkLst m) := by
  refine peI (pe_lst h) fun σ H Q ⟨fr, S, G, R, h⟩ => ⟨fr, S, G, R, h.split fun xs S1 us H1 G1 R1 st1 rs h1 => ?_⟩
  cases e : asDs xs with
  | none => exact (Pst.not_bad (by simpa [mkLst, e] using h1)).elim
  | some ds =>
    have r := rs.data e
    by_cases z : ds.length ≤ sizeLine
    · have h1' : Pst (.of X) W O σ H1 fr G1 (Rs.ok (.d (.list ds)) S1) (RpS (.of X)) Q := by simpa [mkLst, e, z] using h1
      refine ⟨by rw [← r.length]; exact z, fun p hp => ?_⟩
      obtain ⟨G2, R2, st2, q⟩ := R1.newL hp r
      exact h1'.fin R2 st2 q
    · exact (Pst.not_bad (by simpa [mkLst, e, z] using h1)).elim
end
end PD
namespace PD
open PySem PySem.Spec PyProof.Rows L2
section
variable {X : Cx} {pins : List (Addr × Obj)} {σ : L2.St} {H : Hp} {s : Shared} {F : Addr → Prop}
theorem dK_entries {knd : KeyKind X.prog X.w Key} (hk : ∀ k v, knd.is k v = true → RelV (kV k) v) : ∀ {es : List DictEntry} {vs : List (Key × Value)} {kvs : List (Key × V)}, Pairs knd es vs → KV kvs vs →
    Vals (kvs.map fun p => kV p.1) (es.map (·.key)) ∧ Vals (kvs.map (·.2)) (es.map (·.val))
  | _, _, _, .nil, .nil => ⟨.nil, .nil⟩
  | _, _, _, .cons h1 h2 t, .cons ⟨e, r⟩ t' => by
    obtain ⟨a, b⟩ := dK_entries hk t t'
    refine ⟨.cons ?_ a, .cons ?_ b⟩
    · have q := hk _ _ h1
      rw [← e] at q
      exact q
    · rw [← h2] at r
      exact r
theorem dN_entries {w : World} : ∀ {es : List (NestedKey × Addr × V)} {ds : List DictEntry}, Paired (fun (p : NestedKey × Addr × V) (e : DictEntry) => e.hash = p.1.hash w ∧ e.key = .ref p.2.1 ∧ RelV p.2.2 e.val) es ds →
    Vals (es.map fun e => V.ref e.2.1) (ds.map (·.key)) ∧ Vals (es.map (·.2.2)) (ds.map (·.val))
  | _, _, .nil => ⟨.nil, .nil⟩
  | _, _, .cons ⟨_, r1, r2⟩ t => ⟨.cons r1 (dN_entries t).1, .cons r2 (dN_entries t).2⟩
mutual
theorem Rp.reads (I : Inv X pins σ H s) : ∀ {d : PyData} {v : V} {u : Value}, Rp (.of X) F H d v → RelV v u → ∃ as, Reads s.heap u d as
  | _, _, _, .non, r => by cases r; exact ⟨_, .none⟩
  | _, _, _, .bl b, r => by cases r; exact ⟨_, .bool b⟩
  | _, _, _, .int i, r => by obtain ⟨t, rfl⟩ := r; exact ⟨_, .int i t⟩
  | _, _, _, .str x, r => by obtain ⟨t, rfl⟩ := r; exact ⟨_, .str x t⟩
  | _, _, _, .lst f h q, r => by
    cases r
    obtain ⟨z, its, n, rv, e⟩ := I.hok _ _ h
    obtain ⟨as, ra⟩ := RpAll.reads I q rv
    exact ⟨_, .list e rfl rfl (by simpa using ra)⟩
  | _, _, _, .tup h q, r => by
    cases r
    obtain ⟨its, rv, ⟨o, e, hc, n, hd⟩, z⟩ := I.tuple h
    obtain ⟨as, ra⟩ := RpAll.reads I q rv
    exact ⟨_, .tuple e hc hd (by simpa using ra)⟩
  | _, _, _, .dK f h q1 q2, r => by
    cases r
    obtain ⟨z, y, vs, rv, o, es, ep, e, hx, hd, ko, hp, nd⟩ := I.hok _ _ h
    obtain ⟨v1, v2⟩ := dK_entries (fun _ _ hk => keyIs_rel hk) hp rv
    obtain ⟨as, ra⟩ := RpAll.reads I q1 v1
    obtain ⟨bs, rb⟩ := RpAll.reads I q2 v2
    exact ⟨_, .dict e hx.1 hd ra rb⟩
  | _, _, _, .dN f h _ q1 q2, r => by
    cases r
    obtain ⟨⟨o, ds, ep, e, hx, hd, hp, _, _⟩, _⟩ := I.hok _ _ h
    obtain ⟨v1, v2⟩ := dN_entries hp
    obtain ⟨as, ra⟩ := RpAll.reads I q1 v1
    obtain ⟨bs, rb⟩ := RpAll.reads I q2 v2
    exact ⟨_, .dict e hx.1 hd ra rb⟩
theorem RpAll.reads (I : Inv X pins σ H s) : ∀ {ds : List PyData} {vs : List V} {us : List Value}, RpAll (.of X) F H ds vs → Vals vs us → ∃ as, ReadsAll s.heap us ds as
  | _, _, _, .nil, .nil => ⟨_, .nil⟩
  | _, _, _, .cons r t, .cons q w => by
    obtain ⟨as, ra⟩ := Rp.reads I r q
    obtain ⟨bs, rb⟩ := RpAll.reads I t w
    exact ⟨_, .cons ra rb⟩
end
end
def addV : SV → SV → Store → Rs SV
  | .d (.int i), .d (.int j), S => .ok (.d (.int (i + j))) S
  | .d (.str x), .d (.str y), S => if x.length + y.length ≤ sizeLine then .ok (.d (.str (x ++ y))) S else .bad
  | .d (.tuple xs), .d (.tuple ys), S => if xs.length + ys.length ≤ sizeLine then .ok (.d (.tuple (xs ++ ys))) S else .bad
  | .d (.list xs), .d (.list ys), S => if xs.length + ys.length ≤ sizeLine then .ok (.d (.list (xs ++ ys))) S else .bad
  | _, _, _ => .bad
def addR (K : PySem.W.Frag) : R2 := fun x y H Q => (rI0 fun i j => .int (i + j)) x y H Q ∨ (∃ i j, x = .str i ∧ y = .str j ∧ i.length + j.length ≤ sizeLine ∧ Q (.str (i ++ j)) H) ∨ rCatA K x y H Q ∨ rCat x y H Q
theorem op_addR {X : Cx} : OpR X (binaryOp .Add) (addR X.K) := op_add.or (op_add_str.or (op_catA.or op_cat))
theorem p_add {M : Mo} : P2 M (addR M.K) addV := by
  intro W O σ H fr S G x y u v Q R rx ry h
  unfold addV at h
  split at h
  · obtain rfl := rx.int; obtain rfl := ry.int
    exact .inl ⟨_, _, rfl, rfl, h.here R (.int _)⟩
  · obtain rfl := rx.str; obtain rfl := ry.str
    split at h
    · rename_i hz
      exact .inr (.inl ⟨_, _, rfl, rfl, hz, h.here R (.str _)⟩)
    · exact h.not_bad.elim
  · obtain ⟨_, _, rfl, h1, r1⟩ := rx.tup
    obtain ⟨_, _, rfl, h2, r2⟩ := ry.tup
    split at h
    · rename_i hz
      have hz' := hz
      rw [r1.length, r2.length] at hz'
      refine .inr (.inr (.inl ⟨_, _, _, _, rfl, rfl, h1, h2, hz', fun e => ?_, fun _ e => ?_, fun _ _ p hp => ?_⟩))
      · subst e
        cases r1
        exact h.here R (.tup h2 r2)
      · subst e
        cases r2
        rw [List.append_nil] at h
        exact h.here R (.tup h1 r1)
      · obtain ⟨R2, st2, q⟩ := R.newT hp (r1.append r2)
        exact h.fin R2 st2 q
    · exact h.not_bad.elim
  · obtain ⟨_, _, rfl, h1, r1⟩ := rx.lst
    obtain ⟨_, _, rfl, h2, r2⟩ := ry.lst
    split at h
    · rename_i hz
      have hz' := hz
      rw [r1.length, r2.length] at hz'
      refine .inr (.inr (.inr ⟨_, _, _, _, rfl, rfl, h1, h2, hz', fun p hp => ?_⟩))
      obtain ⟨G2, R2, st2, q⟩ := R.newL hp (r1.append r2)
      exact h.fin R2 st2 q
    · exact h.not_bad.elim
  · exact h.not_bad.elim
def subV : SV → SV → Store → Rs SV
  | .d (.int i), .d (.int j), S => .ok (.d (.int (i - j))) S
  | _, _, _ => .bad
theorem p_sub {M : Mo} : P2 M (rI0 fun i j => .int (i - j)) subV := by
  intro W O σ H fr S G x y u v Q R rx ry h
  unfold subV at h
  split at h
  · obtain rfl := rx.int; obtain rfl := ry.int
    exact ⟨_, _, rfl, rfl, h.here R (.int _)⟩
  · exact h.not_bad.elim
def small64 (i : Int) : Bool := decide (-(2 ^ 64) < i) && decide (i < 2 ^ 64)
def repS (z : Str) (k : Nat) : Str := ⟨(List.replicate k z.cps).foldl (· ++ ·) #[]⟩
theorem repS_cps (z : Str) (k : Nat) : (repS z k).cps.toList = (List.replicate k z.cps.toList).flatten := by
  have : ∀ (k : Nat) (acc : Array Nat), ((List.replicate k z.cps).foldl (· ++ ·) acc).toList = acc.toList ++ (List.replicate k z.cps.toList).flatten := fun k => by
    induction k with
    | zero => intro acc; simp
    | succ k ih =>
      intro acc
      rw [List.replicate_succ, List.foldl_cons, ih, List.replicate_succ, List.flatten_cons, Array.toList_append, List.append_assoc]
  have := this k #[]
  simp only [List.nil_append] at this
  exact this
theorem repS_len (z : Str) (k : Nat) : (repS z k).length = k * z.length := by
  have h := congrArg List.length (repS_cps z k)
  have e : ∀ (k : Nat) (xs : List Nat), (List.replicate k xs).flatten.length = k * xs.length := fun k xs => by
    induction k with
    | zero => simp
    | succ k ih => rw [List.replicate_succ, List.flatten_cons, List.length_append, ih, Nat.succ_mul, Nat.add_comm]
  rw [e] at h
  simpa [Str.length] using h
def rRepS : R2 := fun x y H Q => ∃ z k, x = V.str z ∧ y = V.int k ∧ 0 ≤ k ∧ k ≤ 4000 ∧ z.length ≤ 4000 ∧ Q (.str (repS z k.toNat)) H
theorem op_repS {X : Cx} : OpR X (binaryOp .Mult) rRepS := by
  intro pins s σ H x y v u Q I rx ry h
  obtain ⟨z, k, rfl, rfl, k0, k1, hz, q⟩ := h
  obtain ⟨t, rfl⟩ := rx
  obtain ⟨t2, rfl⟩ := ry
  have sz : sizeLine = 16777216 := sizeLine_eq
  have hm : z.length * k.toNat ≤ 4000 * 4000 := Nat.mul_le_mul hz (by omega)
  refine P.mul_str ?_ ?_ ?_ ?_
  · rw [decide_eq_false (by omega), decide_eq_false (by omega)]
    rfl
  · intro h1 _
    have : (2 ^ 63 - 1 : Int) / k ≥ 9223372036854775 / 4 := by
      rw [ge_iff_le, Int.le_ediv_iff_mul_le (by omega)]
      omega
    omega
  · intro _ _
    unfold Builtin.Str.tooLong
    rw [decide_eq_false (by omega)]
  · by_cases h1 : k < 1
    · rw [if_pos h1]
      have : k = 0 := by omega
      subst this
      exact ⟨by decide, .str _, H, I.tok _, ⟨_, rfl⟩, q⟩
    · rw [if_neg h1]
      by_cases h2 : (k == 1 || z.length == 0) = true
      · rw [if_pos h2]
        have e : repS z k.toNat = z := by
          rw [Bool.or_eq_true, beq_iff_eq, beq_iff_eq] at h2
          rcases h2 with h2 | h2
          · subst h2
            show (⟨#[] ++ z.cps⟩ : Str) = z
            rw [Array.empty_append]
          · have e1 : z.cps.toList = [] := by
              have : z.cps.toList.length = 0 := by simpa [Str.length] using h2
              exact List.length_eq_zero_iff.mp this
            have e2 := repS_cps z k.toNat
            rw [e1] at e2
            have e3 : (repS z k.toNat).cps.toList = z.cps.toList := by rw [e2, e1]; simp
            have e4 : (repS z k.toNat).cps = z.cps := Array.toList_inj.mp e3
            cases z
            simp only [repS] at e4 ⊢
            rw [e4]
        rw [e] at q
        exact ⟨.str _, H, I, ⟨_, rfl⟩, q⟩
      · rw [if_neg h2]
        refine ⟨?_, .str _, H, I.tok _, ⟨_, rfl⟩, q⟩
        have := repS_len z k.toNat
        unfold repS at this
        rw [this, Nat.mul_comm]
        omega
def mulV : SV → SV → Store → Rs SV
  | .d (.str z), .d (.int k), S => if (decide (0 ≤ k) && decide (k ≤ 4000) && decide (z.length ≤ 4000)) = true then .ok (.d (.str (repS z k.toNat))) S else .bad
  | .d (.int i), .d (.int j), S => if (small64 i || small64 j) = true then .ok (.d (.int (i * j))) S else .bad
  | .d (.list xs), .d (.int k), S => if (decide (-(2 ^ 63) ≤ k) && decide (k < 2 ^ 63) && decide (xs.length * k.toNat ≤ sizeLine)) = true then .ok (.d (.list (List.replicate k.toNat xs).flatten)) S else .bad
  | .d (.tuple xs), .d (.int k), S => if (!xs.isEmpty && decide (2 ≤ k) && decide (k ≤ 1000) && decide (xs.length ≤ 1000)) = true then .ok (.d (.tuple (List.replicate k.toNat xs).flatten)) S else .bad
  | _, _, _ => .bad
def mulR (K : PySem.W.Frag) : R2 := fun x y H Q => rI CMul (fun i j => .int (i * j)) x y H Q ∨ rRep x y H Q ∨ rRepT K x y H Q ∨ rRepS x y H Q
theorem op_mulR {X : Cx} : OpR X (binaryOp .Mult) (mulR X.K) := op_mul.or (op_rep.or (op_repT.or op_repS))
theorem RpAll.replicate {M : Mo} {F : Addr → Prop} {H : Hp} {ds : List PyData} {vs : List V} (r : RpAll M F H ds vs) : ∀ n : Nat, RpAll M F H (List.replicate n ds).flatten (List.replicate n vs).flatten
  | 0 => .nil
  | n + 1 => by
    rw [List.replicate_succ, List.replicate_succ, List.flatten_cons, List.flatten_cons]
    exact r.append (r.replicate n)
theorem p_mul {M : Mo} : P2 M (mulR M.K) mulV := by
  intro W O σ H fr S G x y u v Q R rx ry h
  unfold mulV at h
  split at h
  · obtain rfl := ry.int
    obtain rfl := rx.str
    split at h
    · rename_i hz
      simp only [Bool.and_eq_true, decide_eq_true_eq] at hz
      exact .inr (.inr (.inr ⟨_, _, rfl, rfl, hz.1.1, hz.1.2, hz.2, h.here R (.str _)⟩))
    · exact h.not_bad.elim
  · obtain rfl := rx.int; obtain rfl := ry.int
    split at h
    · rename_i hz
      refine .inl ⟨_, _, rfl, rfl, ?_, h.here R (.int _)⟩
      simp only [small64, Bool.or_eq_true, Bool.and_eq_true, decide_eq_true_eq] at hz
      exact hz
    · exact h.not_bad.elim
  · obtain rfl := ry.int
    obtain ⟨_, _, rfl, h1, r1⟩ := rx.lst
    split at h
    · rename_i hz
      simp only [Bool.and_eq_true, decide_eq_true_eq] at hz
      have hz' := hz.2
      rw [r1.length] at hz'
      refine .inr (.inl ⟨_, _, _, rfl, rfl, h1, hz.1.1, hz.1.2, hz', fun p hp => ?_⟩)
      obtain ⟨G2, R2, st2, q⟩ := R.newL hp (r1.replicate _)
      exact h.fin R2 st2 q
    · exact h.not_bad.elim
  · obtain rfl := ry.int
    obtain ⟨_, _, rfl, h1, r1⟩ := rx.tup
    split at h
    · rename_i hz
      simp only [Bool.and_eq_true, decide_eq_true_eq] at hz
      have hl := r1.length
      refine .inr (.inr (.inl ⟨_, _, _, rfl, rfl, h1, ?_, hz.1.1.2, hz.1.2, by rw [← hl]; exact hz.2, fun p hp => ?_⟩))
      · intro e
        subst e
        cases r1
        simp at hz
      · obtain ⟨R2, st2, q⟩ := R.newT hp (r1.replicate _)
        exact h.fin R2 st2 q
    · exact h.not_bad.elim
  · exact h.not_bad.elim
def modV : SV → SV → Store → Rs SV
  | .d (.int i), .d (.int j), S => if 0 < j then .ok (.d (.int (i % j))) S else .bad
  | _, _, _ => .bad
theorem p_mod {M : Mo} : P2 M (rI (fun _ j => 0 < j) fun i j => .int (i % j)) modV := by
  intro W O σ H fr S G x y u v Q R rx ry h
  unfold modV at h
  split at h
  · obtain rfl := rx.int; obtain rfl := ry.int
    split at h
    · rename_i hz
      exact ⟨_, _, rfl, rfl, hz, h.here R (.int _)⟩
    · exact h.not_bad.elim
  · exact h.not_bad.elim
def divV : SV → SV → Store → Rs SV
  | .d (.int i), .d (.int j), S => if 0 < j ∧ j < 1073741824 then .ok (.d (.int (i / j))) S else .bad
  | _, _, _ => .bad
theorem p_div {M : Mo} : P2 M (rI CDiv fun i j => .int (i / j)) divV := by
  intro W O σ H fr S G x y u v Q R rx ry h
  unfold divV at h
  split at h
  · obtain rfl := rx.int; obtain rfl := ry.int
    split at h
    · rename_i hz
      exact ⟨_, _, rfl, rfl, hz, h.here R (.int _)⟩
    · exact h.not_bad.elim
  · exact h.not_bad.elim
def powV : SV → SV → Store → Rs SV
  | .d (.int i), .d (.int j), S => if 0 ≤ j ∧ j ≤ 1000000 ∧ i.natAbs < 2 ^ 64 then .ok (.d (.int (i ^ j.toNat))) S else .bad
  | _, _, _ => .bad
theorem p_pow {M : Mo} : P2 M (rI CPow fun i j => .int (i ^ j.toNat)) powV := by
  intro W O σ H fr S G x y u v Q R rx ry h
  unfold powV at h
  split at h
  · obtain rfl := rx.int; obtain rfl := ry.int
    split at h
    · rename_i hz
      exact ⟨_, _, rfl, rfl, hz, h.here R (.int _)⟩
    · exact h.not_bad.elim
  · exact h.not_bad.elim
def negV : SV → Store → Rs SV
  | .d (.int i), S => .ok (.d (.int (-i))) S
  | _, _ => .bad
theorem p_neg {M : Mo} : P1 M (rU fun i => .int (-i)) negV := by
  intro W O σ H fr S G x u Q R rx h
  unfold negV at h
  split at h
  · obtain rfl := rx.int
    exact ⟨_, rfl, h.here R (.int _)⟩
  · exact h.not_bad.elim
def lstDiff : PyData → PyData → Bool
  | .list xs, .list ys => decide (xs.length ≠ ys.length)
  | .tuple (_ :: _), .tuple [] => true
  | .tuple [], .tuple (_ :: _) => true
  | _, _ => false
def eqOk (d e : PyData) : Bool := (d.canLay0 && e.canLay0 && decide (min d.depth e.depth ≤ 190)) || lstDiff d e
theorem eqvAll_len : ∀ {xs ys : List PyData}, xs.length ≠ ys.length → PyData.eqvAll xs ys = false
  | [], [], h => absurd rfl h
  | [], _ :: _, _ => rfl
  | _ :: _, [], _ => rfl
  | x :: xs, y :: ys, h => by
    rw [PyData.eqvAll, eqvAll_len (fun e => h (by simp [e]))]
    simp
def eqV (neg : Bool) : SV → SV → Store → Rs SV
  | .d (.str x), .d (.str y), S => .ok (.d (.bool (neg ^^ decide (x = y)))) S
  | .d x, .d y, S => if eqOk x y = true then .ok (.d (.bool (neg ^^ PyData.eqv x y))) S else .bad
  | _, _, _ => .bad
def eqR (X : Cx) (neg : Bool) : R2 := fun x y H Q => (∃ i j, x = .str i ∧ y = .str j ∧ Q (.bl (neg ^^ decide (i = j))) H) ∨ ∃ F F' d e, Rp (.of X) F H d x ∧ Rp (.of X) F' H e y ∧ eqOk d e = true ∧ Q (.bl (neg ^^ PyData.eqv d e)) H
theorem room190 {k : Nat} {A : Around} (hr : Room k A) {n : Nat} (h : n ≤ 190) : A.units + n < cLine := by
  have := hr.un
  omega
theorem strs_dec (i j : Str) : decide (V.str i = V.str j) = decide (i = j) := by
  rw [Bool.eq_iff_iff]
  simp
theorem diff_lists {X : Cx} {pins : List (Addr × Obj)} {σ : L2.St} {H : Hp} {s : Shared} {F F' : Addr → Prop} {d e : PyData} {x y : V} {u v : Value} (I : Inv X pins σ H s) (hd : Rp (.of X) F H d x) (he : Rp (.of X) F' H e y) (rx : RelV x u) (ry : RelV y v) (h : lstDiff d e = true) :
    PyData.eqv d e = false ∧ ∃ l b, u = .ref l ∧ v = .ref b ∧ ∀ A : Around, A.units < cLine → SeqAt.RcAt A s (.ref l) (.ref b) false ∧ SeqAt.RcNeAt A s (.ref l) (.ref b) true := by
  unfold lstDiff at h
  split at h
  · rename_i xs ys
    cases hd with
    | @lst a vs _ f q r =>
      cases he with
      | @lst b us _ f' q' r' =>
        obtain ⟨its, rv, pl, _⟩ := I.list (.inl (.inl q))
        obtain ⟨its2, rv2, pl2, _⟩ := I.list (.inl (.inl q'))
        have ne : its.toArray.size ≠ its2.toArray.size := by
          have h1 := rv.length
          have h2 := rv2.length
          have h3 := r.length
          have h4 := r'.length
          have := of_decide_eq_true h
          simp only [List.size_toArray]
          omega
        refine ⟨by rw [PyData.eqv, eqvAll_len (of_decide_eq_true h)], a, b, rx, ry, fun A hu => ⟨?_, ?_⟩⟩
        · exact SeqAt.RcAt.lists_lengths pl.isList pl2.isList (by simpa using ne) hu
        · exact SeqAt.RcNeAt.lists_lengths pl.isList pl2.isList (by simpa using ne) hu
  · rename_i x xs
    cases hd with
    | @tup a vs _ q r =>
      cases he with
      | @tup b us _ q' r' =>
        obtain ⟨its, rv, pl, _⟩ := I.tuple q
        obtain ⟨its2, rv2, pl2, _⟩ := I.tuple q'
        have h1 := rv.length
        have h2 := rv2.length
        have h3 := r.length
        have h4 := r'.length
        have z2 : its2.toArray.size = 0 := by simp only [List.size_toArray]; simp at h4; omega
        have z1 : its.toArray.size ≠ 0 := by simp only [List.size_toArray]; simp at h3; omega
        have eb : ((List.range (min its.toArray.size its2.toArray.size)).all (fun _ => true) && its.toArray.size == its2.toArray.size) = false := by
          rw [z2]
          simp
          simpa using z1
        refine ⟨rfl, a, b, rx, ry, fun A hu => ⟨?_, ?_⟩⟩
        · have := SeqAt.RcAt.tuples (A := A) (e := fun _ => true) pl pl2 hu (fun j h1 h2 => absurd h2 (by omega))
          rw [eb] at this
          exact this
        · have := SeqAt.RcNeAt.tuples (A := A) (e := fun _ => true) pl pl2 hu (fun j h1 h2 => absurd h2 (by omega))
          rw [eb] at this
          exact this
  · rename_i x xs
    cases hd with
    | @tup a vs _ q r =>
      cases he with
      | @tup b us _ q' r' =>
        obtain ⟨its, rv, pl, _⟩ := I.tuple q
        obtain ⟨its2, rv2, pl2, _⟩ := I.tuple q'
        have h1 := rv.length
        have h2 := rv2.length
        have h3 := r.length
        have h4 := r'.length
        have z2 : its.toArray.size = 0 := by simp only [List.size_toArray]; simp at h3; omega
        have z1 : its2.toArray.size ≠ 0 := by simp only [List.size_toArray]; simp at h4; omega
        have eb : ((List.range (min its.toArray.size its2.toArray.size)).all (fun _ => true) && its.toArray.size == its2.toArray.size) = false := by
          rw [z2]
          simp
          exact fun e => z1 (by simpa using e.symm)
        refine ⟨rfl, a, b, rx, ry, fun A hu => ⟨?_, ?_⟩⟩
        · have := SeqAt.RcAt.tuples (A := A) (e := fun _ => true) pl pl2 hu (fun j h1 h2 => absurd h1 (by omega))
          rw [eb] at this
          exact this
        · have := SeqAt.RcNeAt.tuples (A := A) (e := fun _ => true) pl pl2 hu (fun j h1 h2 => absurd h1 (by omega))
          rw [eb] at this
          exact this
  · cases h
theorem op_eqR {X : Cx} {k : Nat} (hr : Room k X.A) : OpR X (compareOp .Eq) (eqR X false) := by
  intro pins s σ H x y v u Q I rx ry h
  rcases h with ⟨i, j, rfl, rfl, q⟩ | ⟨F, F', d, e, hd, he, ok, q⟩
  · exact op_eq pins s σ H _ _ v u Q I rx ry ⟨rfl, by rw [strs_dec]; simpa using q⟩
  simp only [eqOk, Bool.or_eq_true, Bool.and_eq_true, decide_eq_true_eq] at ok
  rcases ok with ok | ok
  · obtain ⟨as, r1⟩ := hd.reads I rx
    obtain ⟨bs, r2⟩ := he.reads I ry
    exact SeqAt.compareEq_reads r1 r2 ok.1.1 ok.1.2 (room190 hr ok.2) ⟨.bl _, H, I, rfl, by simpa using q⟩
  · obtain ⟨ef, l, b, e1, e2, h1⟩ := diff_lists I hd he rx ry ok
    subst e1 e2
    rw [ef] at q
    exact (h1 X.A (by have := hr.un; omega)).1 X.prog X.w X.xe (EP X pins σ Q) ⟨.bl _, H, I, rfl, by simpa using q⟩
theorem op_neR {X : Cx} {k : Nat} (hr : Room k X.A) : OpR X (compareOp .NotEq) (eqR X true) := by
  intro pins s σ H x y v u Q I rx ry h
  rcases h with ⟨i, j, rfl, rfl, q⟩ | ⟨F, F', d, e, hd, he, ok, q⟩
  · exact op_ne pins s σ H _ _ v u Q I rx ry ⟨rfl, by rw [strs_dec]; simpa using q⟩
  simp only [eqOk, Bool.or_eq_true, Bool.and_eq_true, decide_eq_true_eq] at ok
  rcases ok with ok | ok
  · obtain ⟨as, r1⟩ := hd.reads I rx
    obtain ⟨bs, r2⟩ := he.reads I ry
    exact SeqAt.compareNe_reads r1 r2 ok.1.1 ok.1.2 (room190 hr ok.2) ⟨.bl _, H, I, rfl, by simpa using q⟩
  · obtain ⟨ef, l, b, e1, e2, h1⟩ := diff_lists I hd he rx ry ok
    subst e1 e2
    rw [ef] at q
    exact (h1 X.A (by have := hr.un; omega)).2 X.prog X.w X.xe (EP X pins σ Q) ⟨.bl _, H, I, rfl, by simpa using q⟩
theorem p_eq {X : Cx} {neg : Bool} : P2 (.of X) (eqR X neg) (eqV neg) := by
  intro W O σ H fr S G x y u v Q R rx ry h
  unfold eqV at h
  split at h
  · obtain rfl := rx.str; obtain rfl := ry.str
    exact .inl ⟨_, _, rfl, rfl, h.here R (.bl _)⟩
  · split at h
    · rename_i hz
      obtain ⟨_, rx⟩ := rx.any
      obtain ⟨_, ry⟩ := ry.any
      exact .inr ⟨_, _, _, _, rx, ry, hz, h.here R (.bl _)⟩
    · exact h.not_bad.elim
  · exact h.not_bad.elim
def inOk (d : PyData) (ds : List PyData) : Bool := PyData.canLayAll0 ds && d.canLay0 && decide (min (PyData.depthAll ds) d.depth ≤ 189)
def inV (neg : Bool) : SV → SV → Store → Rs SV
  | .d (.str c), .d (.str z), S => .ok (.d (.bool (neg ^^ !(Builtin.Str.occurrences z c 0 z.length 1).isEmpty))) S
  | .d x, .d (.list ds), S => if inOk x ds = true then .ok (.d (.bool (neg ^^ ds.any fun y => PyData.eqv y x))) S else .bad
  | .d x, .d (.tuple ds), S => if inOk x ds = true then .ok (.d (.bool (neg ^^ ds.any fun y => PyData.eqv y x))) S else .bad
  | _, _, _ => .bad
def inR (X : Cx) (neg : Bool) : R2 := fun x y H Q => (∃ i j, x = .str i ∧ y = .str j ∧ Q (.bl (neg ^^ !(Builtin.Str.occurrences j i 0 j.length 1).isEmpty)) H) ∨
  ∃ F F' d ds, Rp (.of X) F H d x ∧ (Rp (.of X) F' H (.list ds) y ∨ Rp (.of X) F' H (.tuple ds) y) ∧ inOk d ds = true ∧ Q (.bl (neg ^^ ds.any fun y => PyData.eqv y d)) H
theorem op_inR {X : Cx} {k : Nat} (hr : Room k X.A) : OpR X (compareOp .In) (inR X false) := by
  intro pins s σ H x y v u Q I rx ry h
  rcases h with ⟨i, j, e1, e2, q⟩ | ⟨F, F', d, ds, hd, he, ok, q⟩
  · exact op_in_str pins s σ H x y v u Q I rx ry ⟨i, j, e1, e2, by simpa using q⟩
  · obtain ⟨as, r1⟩ := hd.reads I rx
    simp only [inOk, Bool.and_eq_true, decide_eq_true_eq] at ok
    have hu : X.A.units + 1 + min (PyData.depthAll ds) d.depth < cLine := by
      have := room190 hr (n := 1 + min (PyData.depthAll ds) d.depth) (by omega)
      omega
    rcases he with he | he
    · obtain ⟨bs, r2⟩ := he.reads I ry
      exact SeqAt.in_list_reads r2 r1 ok.1.1 ok.1.2 hu ⟨.bl _, H, I, rfl, by simpa using q⟩
    · obtain ⟨bs, r2⟩ := he.reads I ry
      exact SeqAt.in_tuple_reads r2 r1 ok.1.1 ok.1.2 hu ⟨.bl _, H, I, rfl, by simpa using q⟩
theorem p_in {X : Cx} {neg : Bool} : P2 (.of X) (inR X neg) (inV neg) := by
  intro W O σ H fr S G x y u v Q R rx ry h
  unfold inV at h
  split at h
  · obtain rfl := rx.str; obtain rfl := ry.str
    exact .inl ⟨_, _, rfl, rfl, h.here R (.bl _)⟩
  · split at h
    · rename_i hz
      obtain ⟨_, rx⟩ := rx.any
      obtain ⟨_, ry⟩ := ry.any
      exact .inr ⟨_, _, _, _, rx, .inl ry, hz, h.here R (.bl _)⟩
    · exact h.not_bad.elim
  · split at h
    · rename_i hz
      obtain ⟨_, rx⟩ := rx.any
      obtain ⟨_, ry⟩ := ry.any
      exact .inr ⟨_, _, _, _, rx, .inr ry, hz, h.here R (.bl _)⟩
    · exact h.not_bad.elim
  · exact h.not_bad.elim
end PD
namespace PD
open PySem PySem.Spec PyProof.Rows L2
def isNone : SV → Bool
  | .d .none => true
  | _ => false
def isV (neg : Bool) : SV → SV → Store → Rs SV
  | x, .d .none, S => .ok (.d (.bool (neg ^^ isNone x))) S
  | _, _, _ => .bad
theorem isNone_rel {M : Mo} {G : Gh} {H : Hp} {x : SV} {u : V} (r : RpV M G H x u) : isNone x = decide (u = .non) := by
  cases r with
  | own _ _ _ => simp [isNone]
  | ownD _ _ => simp [isNone]
  | val r =>
  cases x with
  | d x => cases r <;> simp [isNone]
  | obj n =>
    obtain ⟨a, _, e⟩ := r
    subst e
    simp [isNone]
  | scr ns =>
    obtain ⟨a, e, _⟩ := r
    subst e
    simp [isNone]
theorem p_is {M : Mo} : P2 M (fun x y H Q => y = .non ∧ Q (.bl (decide (x = .non))) H) (isV false) := by
  intro W O σ H fr S G x y u v Q R rx ry h
  unfold isV at h
  split at h
  · obtain rfl := ry.non
    refine ⟨rfl, ?_⟩
    rw [← isNone_rel rx]
    simp only [Bool.false_xor] at h
    exact h.here R (Rp.bl _)
  · exact h.not_bad.elim
theorem p_isnot {M : Mo} : P2 M (fun x y H Q => y = .non ∧ Q (.bl (!decide (x = .non))) H) (isV true) := by
  intro W O σ H fr S G x y u v Q R rx ry h
  unfold isV at h
  split at h
  · obtain rfl := ry.non
    refine ⟨rfl, ?_⟩
    rw [← isNone_rel rx]
    simp only [Bool.true_xor] at h
    exact h.here R (Rp.bl _)
  · exact h.not_bad.elim
theorem RpAll.atI {M : Mo} {F : Addr → Prop} {H : Hp} {ds : List PyData} {vs : List V} {i : Int} {d : PyData} (r : RpAll M F H ds vs) (h : L2.atI ds i = some d) : ∃ v, L2.atI vs i = some v ∧ Rp M F H d v := by
  unfold L2.atI at h ⊢
  rw [← r.length]
  cases e : ixN ds.length i with
  | none => rw [e] at h; cases h
  | some j =>
    rw [e] at h
    exact r.get h
theorem RpSs.atI {M : Mo} {G : Gh} {H : Hp} {ds : List SV} {vs : List V} {i : Int} {d : SV} (r : RpSs M G H ds vs) (h : L2.atI ds i = some d) : ∃ v, L2.atI vs i = some v ∧ RpS M G H d v := by
  have hl : ds.length = vs.length := Paired.length r
  have hg : ∀ {xs : List SV} {us : List V} {j : Nat}, RpSs M G H xs us → xs[j]? = some d → ∃ v, us[j]? = some v ∧ RpS M G H d v := by
    intro xs us j r
    induction r generalizing j with
    | nil => intro e; simp at e
    | cons q t ih =>
      intro e
      cases j with
      | zero =>
        simp at e
        subst e
        exact ⟨_, by simp, q⟩
      | succ j =>
        obtain ⟨v, h1, h2⟩ := ih (by simpa using e)
        exact ⟨v, by simpa using h1, h2⟩
  unfold L2.atI at h ⊢
  rw [← hl]
  cases e : ixN ds.length i with
  | none => rw [e] at h; cases h
  | some j =>
    rw [e] at h
    exact hg r h
def ixV : SV → SV → Store → Rs SV
  | .d (.list ds), .d (.int i), S => match L2.atI ds i with
    | some d => .ok (.d d) S
    | none => .bad
  | .d (.tuple ds), .d (.int i), S => match L2.atI ds i with
    | some d => .ok (.d d) S
    | none => .bad
  | .d (.str z), .d (.int i), S => match L2.atI z.cps.toList i with
    | some c => if z.length ≤ sizeLine then .ok (.d (.str ⟨#[c]⟩)) S else .bad
    | none => .bad
  | .obj r, .d (.int i), S => match S[r]? with
    | some (.lst xs) => (match L2.atI xs i with
      | some d => .ok d S
      | none => .bad)
    | _ => .bad
  | _, _, _ => .bad
theorem Base.store_at {M : Mo} {H : Hp} {S : Store} {G : Gh} (B : Base M H S G) {r : Nat} {o : Ob} {u : V} (h : S[r]? = some o) (q : RpS M G H (.obj r) u) : ∃ a, u = .ref a ∧ ObR M G H o a ∧ G.rho[r]? = some a := by
  obtain ⟨a, e, z⟩ := q
  exact ⟨a, z, B.ob r o a h e, e⟩
theorem p_ix {M : Mo} : P2 M (rIx M.K) ixV := by
  intro W O σ H fr S G x y u v Q R rx ry h
  unfold ixV at h
  split at h
  · obtain rfl := ry.int
    split at h
    · rename_i hz
      obtain ⟨_, _, rfl, h1, r1⟩ := rx.lst
      obtain ⟨w, hw, rw'⟩ := r1.atI hz
      exact .inl ⟨_, _, _, w, rfl, rfl, SqL.of h1, hw, h.here R rw'⟩
    · exact h.not_bad.elim
  · obtain rfl := ry.int
    split at h
    · rename_i hz
      obtain ⟨_, _, rfl, h1, r1⟩ := rx.tup
      obtain ⟨w, hw, rw'⟩ := r1.atI hz
      exact .inr (.inl ⟨_, _, _, w, rfl, rfl, h1, hw, h.here R rw'⟩)
    · exact h.not_bad.elim
  · obtain rfl := ry.int
    split at h
    · rename_i hz
      split at h
      · rename_i hl
        obtain rfl := rx.str
        exact .inr (.inr ⟨_, _, _, rfl, rfl, hl, hz, h.here R (.str _)⟩)
      · exact h.not_bad.elim
    · exact h.not_bad.elim
  · obtain rfl := ry.int
    split at h
    · rename_i hs
      split at h
      · rename_i hz
        obtain ⟨a, rfl, ⟨vs, e, rs⟩, _⟩ := R.base.store_at hs rx.obj
        obtain ⟨w, hw, rw'⟩ := rs.atI hz
        exact .inl ⟨_, _, _, w, rfl, rfl, SqL.of e, hw, h.here R rw'⟩
      · exact h.not_bad.elim
    · exact h.not_bad.elim
  · exact h.not_bad.elim
abbrev OMt := Fr → Store → Rs (Option Int)
def tO (M : Mo) (W : WX) (O : Own) (m : OMt) : TO := fun σ H Q => ∃ fr S G, Rel M O σ H fr S G ∧ Pst M W O σ H fr G (m fr S) (fun _ _ b c => b = c) Q
def CO (X : Cx) (W : WX) (O : Own) (e : Option Expr) (m : OMt) : Prop := PO X e (tO (.of X) W O m)
def oN : OMt := fun _ S => .ok none S
def oS (m : EM) : OMt := fun fr S => (m fr S).bind fun x S1 => match x with
  | .d (.int i) => .ok (some i) S1
  | _ => .bad
theorem poI {X : Cx} {e : Option Expr} {t t' : TO} (h : PO X e t) (i : ∀ σ H Q, t' σ H Q → t σ H Q) : PO X e t' := ⟨fun pins s σ H Q I q => h.run pins s σ H Q I (i σ H Q q)⟩
section
variable {X : Cx} {W : WX} {O : Own} {pos p2 : Pos}
theorem co_none : CO X W O none oN := poI po_none fun σ H Q ⟨fr, S, G, R, h⟩ => h.here R rfl
theorem co_some {e : Expr} {m : EM} (h : CE X W O e m) : CO X W O (some e) (oS m) := poI (po_some h) fun σ H Q ⟨fr, S, G, R, h⟩ => ⟨fr, S, G, R, h.split fun x S1 u H1 G1 R1 st1 rx h1 => by
  split at h1
  · cases rx
    exact ⟨_, rfl, h1.here R1 rfl⟩
  · exact h1.not_bad.elim⟩
def cutD (xs : List PyData) (lo hi : Option Int) : List PyData := (xs.drop (HT.sIx xs.length 0 lo)).take (HT.sIx xs.length xs.length hi - HT.sIx xs.length 0 lo)
theorem RpAll.drop {M : Mo} {F : Addr → Prop} {H : Hp} : ∀ {ds : List PyData} {vs : List V} (n : Nat), RpAll M F H ds vs → RpAll M F H (ds.drop n) (vs.drop n)
  | _, _, 0, r => by simpa using r
  | _, _, _ + 1, .nil => by simpa using RpAll.nil
  | _, _, n + 1, .cons _ t => by simpa using RpAll.drop n t
theorem RpAll.take {M : Mo} {F : Addr → Prop} {H : Hp} : ∀ {ds : List PyData} {vs : List V} (n : Nat), RpAll M F H ds vs → RpAll M F H (ds.take n) (vs.take n)
  | _, _, 0, r => by simpa using RpAll.nil
  | _, _, _ + 1, .nil => by simpa using RpAll.nil
  | _, _, n + 1, .cons r t => by simpa using RpAll.cons r (RpAll.take n t)
theorem RpAll.cut {M : Mo} {F : Addr → Prop} {H : Hp} {ds : List PyData} {vs : List V} {lo hi : Option Int} (r : RpAll M F H ds vs) : RpAll M F H (cutD ds lo hi) (cutV vs lo hi) := by
  unfold cutD cutV
  rw [← r.length]
  exact (r.drop _).take _
def cutI (xs : List Int) (lo hi : Option Int) : List Int := (xs.drop (HT.sIx xs.length 0 lo)).take (HT.sIx xs.length xs.length hi - HT.sIx xs.length 0 lo)
theorem cutV_ints (ns : List Int) (lo hi : Option Int) : cutV (ns.map V.int) lo hi = (cutI ns lo hi).map V.int := by
  unfold cutV cutI
  rw [List.length_map, List.map_take, List.map_drop]
theorem RpAll.ints {M : Mo} {F : Addr → Prop} {H : Hp} : ∀ ns : List Int, RpAll M F H (ns.map .int) (ns.map V.int)
  | [] => .nil
  | n :: ns => .cons (.int n) (RpAll.ints ns)
def slV (x : SV) (lo hi : Option Int) (S : Store) : Rs SV := match x with
  | .d (.list ds) => .ok (.d (.list (cutD ds lo hi))) S
  | .d (.tuple ds) => .ok (.d (.tuple (cutD ds lo hi))) S
  | .d (.str z) => if z.length ≤ sizeLine then .ok (.d (.str (cutS z lo hi))) S else .bad
  | .scr ns => .ok (.d (.list ((cutI ns lo hi).map .int))) S
  | _ => .bad
def eSl (a : EM) (l u : OMt) : EM := fun fr S => (a fr S).bind fun x S1 => (l fr S1).bind fun lo S2 => (u fr S2).bind fun hi S3 => slV x lo hi S3
theorem cutD_all (ds : List PyData) (lo hi : Option Int) (h : HT.sIx ds.length 0 lo = 0 ∧ HT.sIx ds.length ds.length hi = ds.length) : cutD ds lo hi = ds := by
  unfold cutD
  rw [h.1, h.2]
  simp
theorem ce_slice {e : Expr} {lo hi : Option Expr} {m : EM} {l u : OMt} (he : CV X W O e m) (hl : CO X W O lo l) (hu : CO X W O hi u) : CE X W O (.Subscript e (.Slice lo hi none p2) pos) (eSl m l u) :=
  peI (pe_slice (sl_list.or (sl_tupA.or sl_str)) he hl hu) fun σ H Q ⟨fr, S, G, R, h⟩ => ⟨fr, S, G, R, h.split fun x S1 v H1 G1 R1 st1 rx h1 => ⟨fr, S1, G1, R1, h1.split fun lo S2 lo' H2 G2 R2 st2 e2 h2 => ⟨fr, S2, G2, R2, h2.split fun hi S3 hi' H3 G3 R3 st3 e3 h3 => by
    subst e2 e3
    have rx3 := rx.step R1.base (st2.trans st3)
    unfold slV at h3
    split at h3
    · obtain ⟨_, _, rfl, q, r⟩ := rx3.lst
      refine .inl ⟨_, _, rfl, SqL.of q, fun p hp => ?_⟩
      obtain ⟨G4, R4, st4, q4⟩ := R3.newL hp r.cut
      exact h3.fin R4 st4 q4
    · obtain ⟨_, _, rfl, q, r⟩ := rx3.tup
      refine .inr (.inl ⟨_, _, rfl, q, fun e => ?_, fun _ p hp => ?_⟩)
      · rw [← r.length] at e
        rw [cutD_all _ _ _ e] at h3
        exact h3.here R3 (.tup q r)
      · obtain ⟨R4, st4, q4⟩ := R3.newT hp r.cut
        exact h3.fin R4 st4 q4
    · split at h3
      · rename_i hz
        obtain rfl := rx3.str
        exact .inr (.inr ⟨_, rfl, hz, h3.here R3 (.str _)⟩)
      · exact h3.not_bad.elim
    · cases rx3 with
      | val rx3 =>
        obtain ⟨a, rfl, q⟩ := rx3
        refine .inl ⟨_, _, rfl, q.sq, fun p hp => ?_⟩
        rw [cutV_ints]
        obtain ⟨G4, R4, st4, q4⟩ := R3.newL hp (RpAll.ints (cutI _ lo hi))
        exact h3.fin R4 st4 q4
    · exact h3.not_bad.elim⟩⟩⟩
theorem CallR.or {f : Value} {r r' : List V → Hp → VK → Prop} (h : CallR X f r) (h' : CallR X f r') : CallR X f (fun xs H Q => r xs H Q ∨ r' xs H Q) := by
  intro pins s σ H xs us Q I rx q
  rcases q with q | q
  · exact h pins s σ H xs us Q I rx q
  · exact h' pins s σ H xs us Q I rx q
theorem ce_callB {id : String} {r : List V → Hp → VK → Prop} {p : List SV → Store → Rs SV} {x : Str} {q : Pos} {e : Expr} {es : List Expr} {m : AM} (hc : CallR X (.builtin id) r) (hp : PN (.of X) r p) (hg : Gl X x) (hm : X.mg x = none) (hv : bootBuiltins x = some (.builtin id)) (ha : CAV X W O (e :: es) m)
    (hn : x ≠ "__name__" := by decide) (hdb : (x == ("__debug__" : Str)) = false := by decide)
    (he : starEach (e :: es) X.env = (false, eval e X.env) :: starEach es X.env := by rfl) (hpl : (backTo pos (starEach es X.env)).any (·.1) = false := by rfl) : CE X W O (.Call (.Name x q) (e :: es) [] pos) (eA p m) :=
  peI (pe_callB hc hg hm hv ha hn hdb he hpl) fun σ H Q ⟨fr, S, G, R, h⟩ => ⟨fr, S, G, R, h.split fun xs S1 us H1 G1 R1 st1 rs h1 => hp R1 rs h1⟩
theorem ce_callTy {T : String} {r : List V → Hp → VK → Prop} {p : List SV → Store → Rs SV} {x : Str} {q : Pos} {e : Expr} {es : List Expr} {m : AM} (hc : CallR X (.type T) r) (hp : PN (.of X) r p) (hg : Gl X x) (hm : X.mg x = none) (hv : bootBuiltins x = some (.type T)) (ha : CAV X W O (e :: es) m)
    (hn : x ≠ "__name__" := by decide) (hdb : (x == ("__debug__" : Str)) = false := by decide)
    (he : starEach (e :: es) X.env = (false, eval e X.env) :: starEach es X.env := by rfl) (hpl : (backTo pos (starEach es X.env)).any (·.1) = false := by rfl) : CE X W O (.Call (.Name x q) (e :: es) [] pos) (eA p m) :=
  peI (pe_callTy hc hg hm hv ha hn hdb he hpl) fun σ H Q ⟨fr, S, G, R, h⟩ => ⟨fr, S, G, R, h.split fun xs S1 us H1 G1 R1 st1 rs h1 => hp R1 rs h1⟩
end
theorem RpVs.one {M : Mo} {G : Gh} {H : Hp} {x : SV} {us : List V} (r : RpVs M G H [x] us) : ∃ u, us = [u] ∧ RpV M G H x u := by
  cases r with
  | cons q t => cases t; exact ⟨_, rfl, q⟩
theorem RpVs.two {M : Mo} {G : Gh} {H : Hp} {x y : SV} {us : List V} (r : RpVs M G H [x, y] us) : ∃ u v, us = [u, v] ∧ RpV M G H x u ∧ RpV M G H y v := by
  cases r with
  | cons q t =>
    cases t with
    | cons q' t => cases t; exact ⟨_, _, rfl, q, q'⟩
theorem RpSs.one {M : Mo} {G : Gh} {H : Hp} {x : SV} {us : List V} (r : RpSs M G H [x] us) : ∃ u, us = [u] ∧ RpS M G H x u := by
  cases r with
  | cons q t => cases t; exact ⟨_, rfl, q⟩
theorem RpSs.two {M : Mo} {G : Gh} {H : Hp} {x y : SV} {us : List V} (r : RpSs M G H [x, y] us) : ∃ u v, us = [u, v] ∧ RpS M G H x u ∧ RpS M G H y v := by
  cases r with
  | cons q t =>
    cases t with
    | cons q' t => cases t; exact ⟨_, _, rfl, q, q'⟩
def lenV : List SV → Store → Rs SV
  | [.d (.list ds)], S => .ok (.d (.int ds.length)) S
  | [.d (.tuple ds)], S => .ok (.d (.int ds.length)) S
  | [.d (.str z)], S => if z.length ≤ sizeLine then .ok (.d (.int z.length)) S else .bad
  | [.obj r], S => match S[r]? with
    | some (.lst xs) => .ok (.d (.int xs.length)) S
    | _ => .bad
  | _, _ => .bad
theorem p_len {M : Mo} : PN M (fun xs H Q => ∃ x n, xs = [x] ∧ LenV M.K x H n ∧ Q (.int n) H) lenV := by
  intro W O σ H fr S G xs us Q R rs h
  unfold lenV at h
  split at h
  · obtain ⟨u, rfl, ru⟩ := rs.one
    obtain ⟨_, _, rfl, q, r⟩ := ru.lst
    rw [r.length] at h
    exact ⟨_, _, rfl, .inl ⟨_, SqL.of q, rfl⟩, h.here R (.int _)⟩
  · obtain ⟨u, rfl, ru⟩ := rs.one
    obtain ⟨_, _, rfl, q, r⟩ := ru.tup
    rw [r.length] at h
    exact ⟨_, _, rfl, .inr ⟨_, q, rfl⟩, h.here R (.int _)⟩
  · split at h
    · rename_i hz
      obtain ⟨u, rfl, ru⟩ := rs.one
      obtain rfl := ru.str
      exact ⟨_, _, rfl, ⟨hz, rfl⟩, h.here R (.int _)⟩
    · exact h.not_bad.elim
  · split at h
    · rename_i hs
      obtain ⟨u, rfl, ru⟩ := rs.one
      obtain ⟨a, rfl, ⟨vs, e, rv⟩, _⟩ := R.base.store_at hs ru.obj
      rw [show _ = vs.length from Paired.length rv] at h
      exact ⟨_, _, rfl, .inl ⟨_, SqL.of e, rfl⟩, h.here R (.int _)⟩
    · exact h.not_bad.elim
  · exact h.not_bad.elim
def intV : List SV → Store → Rs SV
  | [.d (.int i)], S => .ok (.d (.int i)) S
  | [.d (.bool b)], S => .ok (.d (.int (if b then 1 else 0))) S
  | [.d (.str z)], S => match PySem.intText? z with
    | some n => if z.length ≤ 640 then .ok (.d (.int n)) S else .bad
    | none => .bad
  | _, _ => .bad
def intR : List V → Hp → VK → Prop := fun xs H Q => ((∃ i, xs = [.int i] ∧ Q (.int i) H) ∨ ∃ k, xs = [.bl k] ∧ Q (.int (if k then 1 else 0)) H) ∨ ∃ a n, xs = [.str a] ∧ PySem.intText? a = some n ∧ a.length ≤ 640 ∧ Q (.int n) H
theorem call_intR {X : Cx} : CallR X (.type "int") intR := CallR.or call_int1 call_int_str
theorem p_int {M : Mo} : PN M intR intV := by
  intro W O σ H fr S G xs us Q R rs h
  unfold intV at h
  split at h
  · obtain ⟨u, rfl, ru⟩ := rs.one
    obtain rfl := ru.int
    exact .inl (.inl ⟨_, rfl, h.here R (.int _)⟩)
  · obtain ⟨u, rfl, ru⟩ := rs.one
    obtain rfl := ru.bl
    exact .inl (.inr ⟨_, rfl, h.here R (.int _)⟩)
  · split at h
    · rename_i hn
      split at h
      · rename_i hz
        obtain ⟨u, rfl, ru⟩ := rs.one
        obtain rfl := ru.str
        exact .inr ⟨_, _, rfl, hn, hz, h.here R (.int _)⟩
      · exact h.not_bad.elim
    · exact h.not_bad.elim
  · exact h.not_bad.elim
def absI : List SV → Store → Rs SV
  | [.d (.int i)], S => .ok (.d (.int (if i < 0 then -i else i))) S
  | _, _ => .bad
theorem p_abs {M : Mo} : PN M (fun xs H Q => ∃ i, xs = [.int i] ∧ Q (.int (if i < 0 then -i else i)) H) absI := by
  intro W O σ H fr S G xs us Q R rs h
  unfold absI at h
  split at h
  · obtain ⟨u, rfl, ru⟩ := rs.one
    obtain rfl := ru.int
    exact ⟨_, rfl, h.here R (.int _)⟩
  · exact h.not_bad.elim
def tupleV : List SV → Store → Rs SV
  | [.d (.list ds)], S => .ok (.d (.tuple ds)) S
  | [.d (.tuple ds)], S => .ok (.d (.tuple ds)) S
  | _, _ => .bad
theorem p_tuple {M : Mo} : PN M (fun xs H Q => ∃ p ys, xs = [.ref p] ∧ ((SqL M.K H p ys ∧ ∀ l, H l = none → Q (.ref l) (upd H l (.tup ys))) ∨ (SqT M.K H p ys ∧ Q (.ref p) H))) tupleV := by
  intro W O σ H fr S G xs us Q R rs h
  unfold tupleV at h
  split at h
  · obtain ⟨u, rfl, ru⟩ := rs.one
    obtain ⟨_, _, rfl, q, r⟩ := ru.lst
    refine ⟨_, _, rfl, .inl ⟨SqL.of q, fun p hp => ?_⟩⟩
    obtain ⟨R2, st2, q2⟩ := R.newT hp r
    exact h.fin R2 st2 q2
  · obtain ⟨u, rfl, ru⟩ := rs.one
    obtain ⟨_, _, rfl, q, r⟩ := ru.tup
    exact ⟨_, _, rfl, .inr ⟨q, h.here R (.tup q r)⟩⟩
  · exact h.not_bad.elim
def listV : List SV → Store → Rs SV
  | [.d (.list ds)], S => .ok (.d (.list ds)) S
  | [.d (.tuple ds)], S => .ok (.d (.list ds)) S
  | _, _ => .bad
def strV : List SV → Store → Rs SV
  | [.d (.int i)], S => if i.natAbs.log2 < 1920 then .ok (.d (.str (toString i))) S else .bad
  | [.d (.str z)], S => .ok (.d (.str z)) S
  | _, _ => .bad
def reprOk (d : PyData) : Bool := d.showable && !d.hasDict && decide (d.depth ≤ 180) && decide (d.shown.length ≤ sizeLine)
def ownL (fr : Fr) (i : Nat) : Option (List PyData) := match fr[i]? with
  | some (some (.d (.list ds))) => some ds
  | _ => none
theorem ownL_some {fr : Fr} {i : Nat} {ds : List PyData} (h : ownL fr i = some ds) : fr[i]? = some (some (.d (.list ds))) := by
  unfold ownL at h
  split at h
  · rename_i e
    cases h
    exact e
  · cases h
def eP (i : Nat) : EM := fun fr S => match ownL fr i with
  | some ds => .ok (.d (.list ds)) S
  | none => .bad
theorem cv_own {X : Cx} {W : WX} {O : Own} {pos : Pos} (i : Nat) {x : Str} (ho : (O[i]? == some true) = true := by rfl) (hN : X.N[i]? = some x := by rfl) (hv : Vis X.env.scope x := by first | exact Or.inl rfl | exact Or.inr (Or.inl rfl) | exact Or.inr (Or.inr rfl)) (hd : (x == ("__debug__" : Str)) = false := by decide)
    (hcd : (x == ("__classdict__" : Str)) = false := by decide) : CV X W O (.Name x pos) (eP i) := by
  refine peI (pe_var hN hv hd hcd) fun σ H Q ⟨fr, S, G, R, p⟩ => ?_
  have ho' : O.has i := by simpa [Own.has] using ho
  unfold eP at p
  split at p
  · rename_i ds hds
    obtain ⟨u, h1, h2, _⟩ := R.slot i _ (ownL_some hds)
    obtain ⟨a, e, nf, nr, h0, c⟩ := h2 ho'
    subst e
    refine ⟨_, h1, p.here R ?_⟩
    rcases c with ⟨es, xs, e, q, r⟩ | ⟨_, _, e, _⟩ | ⟨_, _, e, _⟩
    · cases e
      exact .own nr q r
    · cases e
    · cases e
  · exact p.not_bad.elim
end PD
namespace PD
open PySem PySem.Spec PyProof.Rows L2
def truthV : SV → Store → Option Bool
  | .d .none, _ => some false
  | .d (.bool b), _ => some b
  | .d (.int i), _ => some (i != 0)
  | .d (.str z), _ => if z.length ≤ sizeLine then some ((z.length : Int) != 0) else none
  | .d (.list ds), _ => some !ds.isEmpty
  | .d (.tuple ds), _ => some !ds.isEmpty
  | .obj r, S => match S[r]? with
    | some (.lst xs) => some !xs.isEmpty
    | _ => none
  | _, _ => none
def ofO {α : Type} : Option α → Store → Rs α
  | some a, S => .ok a S
  | none, _ => .bad
def bTr (m : EM) : TMt := fun fr S => (m fr S).bind fun x S1 => ofO (truthV x S1) S1
def boolV : SV → Option Bool
  | .d (.bool b) => some b
  | _ => none
def bB (m : EM) : TMt := fun fr S => (m fr S).bind fun x S1 => ofO (boolV x) S1
def bAnd (a b : TMt) : TMt := fun fr S => (a fr S).bind fun c S1 => if c = true then b fr S1 else .ok false S1
def bOr (a b : TMt) : TMt := fun fr S => (a fr S).bind fun c S1 => if c = true then .ok true S1 else b fr S1
def bNot (a : TMt) : TMt := fun fr S => (a fr S).bind fun c S1 => .ok (!c) S1
def eIf (c : TMt) (a b : EM) : EM := fun fr S => (c fr S).bind fun k S1 => if k = true then a fr S1 else b fr S1
def eAnd (a b : EM) : EM := fun fr S => (a fr S).bind fun x S1 => match boolV x with
  | some c => if c = true then b fr S1 else .ok (.d (.bool false)) S1
  | none => .bad
def eOr (a b : EM) : EM := fun fr S => (a fr S).bind fun x S1 => match boolV x with
  | some c => if c = true then .ok (.d (.bool true)) S1 else b fr S1
  | none => .bad
def eNot (a : EM) : EM := fun fr S => (a fr S).bind fun x S1 => match boolV x with
  | some c => .ok (.d (.bool !c)) S1
  | none => .bad
theorem isEmpty_all {M : Mo} {F : Addr → Prop} {H : Hp} {ds : List PyData} {vs : List V} (r : RpAll M F H ds vs) : ds.isEmpty = vs.isEmpty := by cases r <;> rfl
theorem isEmpty_ss {M : Mo} {G : Gh} {H : Hp} {ds : List SV} {vs : List V} (r : RpSs M G H ds vs) : ds.isEmpty = vs.isEmpty := by cases r <;> rfl
theorem tru_of {M : Mo} {O : Own} {σ : L2.St} {H : Hp} {fr : Fr} {S : Store} {G : Gh} {x : SV} {u : V} {k : Bool} (R : Rel M O σ H fr S G) (r : RpV M G H x u) (h : truthV x S = some k) : TruV M.K u H k := by
  unfold truthV at h
  split at h
  · obtain rfl := r.non; exact (Option.some.inj h).symm
  · obtain rfl := r.bl; exact (Option.some.inj h).symm
  · obtain rfl := r.int; exact (Option.some.inj h).symm
  · obtain rfl := r.str
    split at h
    · rename_i hz; exact ⟨hz, (Option.some.inj h).symm⟩
    · cases h
  · obtain ⟨_, _, rfl, q, rr⟩ := r.lst
    exact .inl ⟨_, SqL.of q, by rw [← isEmpty_all rr]; exact (Option.some.inj h).symm⟩
  · obtain ⟨_, _, rfl, q, rr⟩ := r.tup
    exact .inr (.inl ⟨_, q, by rw [← isEmpty_all rr]; exact (Option.some.inj h).symm⟩)
  · split at h
    · rename_i hs
      obtain ⟨a, rfl, ⟨vs, e, rv⟩, _⟩ := R.base.store_at hs r.obj
      exact .inl ⟨_, SqL.of e, by rw [← isEmpty_ss rv]; exact (Option.some.inj h).symm⟩
    · cases h
  · cases h
section
variable {X : Cx} {W : WX} {O : Own} {pos : Pos} {a b : Expr} {rest : List Expr}
theorem boolV_rel {M : Mo} {G : Gh} {H : Hp} {x : SV} {u : V} {c : Bool} (r : RpS M G H x u) (h : boolV x = some c) : u = .bl c := by
  unfold boolV at h
  split at h
  · cases r
    rw [Option.some.inj h]
  · cases h
theorem bB_of {m : EM} {σ : L2.St} {H : Hp} {Q : Bool → Hp → Prop} (h : tT (.of X) W O (bB m) σ H Q) : tM (.of X) W O m σ H fun x H1 => ∃ c, x = .bl c ∧ Q c H1 := by
  obtain ⟨fr, S, G, R, h⟩ := h
  refine ⟨fr, S, G, R, h.split fun x S1 u H1 G1 R1 st1 rx h1 => ?_⟩
  cases e : boolV x with
  | none => rw [e] at h1; exact h1.not_bad.elim
  | some c =>
    rw [e] at h1
    exact ⟨c, boolV_rel rx e, h1.here R1 rfl⟩
theorem ct_truth {m : EM} (h : CV X W O a m) (he : ∀ whole, isTrue a X.env whole = (do let v ← whole; standAt a.pos; holding [v] (truthy v)) := by intro _; rfl) : CT X W O a (bTr m) :=
  ptI (pt_truth h he) fun σ H Q ⟨fr, S, G, R, h⟩ => ⟨fr, S, G, R, h.split fun x S1 u H1 G1 R1 st1 rx h1 => by
    cases e : truthV x S1 with
    | none => rw [e] at h1; exact h1.not_bad.elim
    | some k =>
      rw [e] at h1
      exact ⟨k, tru_of R1 rx e, h1.here R1 rfl⟩⟩
theorem ct_cmp {op : CmpOp} {r : R2} {p : SV → SV → Store → Rs SV} {ma mb : EM} (ho : OpR X (compareOp op) r) (hp : P2 (.of X) r p) (ha : CV X W O a ma) (hb : CV X W O b mb) (hm : behindInMarks op b = false) : CT X W O (.Compare a [op] [b] pos) (bB (e2 p ma mb)) :=
  ptI (pt_cmpR ho ha hb hm) fun σ H Q h => two hp (bB_of h)
theorem cw_and1 {m : TMt} (h : CT X W O a m) : CW X W O (.BoolOp .And [a] pos) m := pw_and1 h
theorem cw_or1 {m : TMt} (h : CT X W O a m) : CW X W O (.BoolOp .Or [a] pos) m := pw_or1 h
theorem cw_and {m n : TMt} (h : CT X W O a m) (h2 : CW X W O (.BoolOp .And (b :: rest) pos) n) : CW X W O (.BoolOp .And (a :: b :: rest) pos) (bAnd m n) :=
  pwI (pw_and h h2) fun σ H Q ⟨fr, S, G, R, h⟩ => ⟨fr, S, G, R, h.split fun x S1 u H1 G1 R1 st1 rx h1 => by
    subst rx
    cases x with
    | true => exact ⟨fr, S1, G1, R1, by simpa using h1⟩
    | false => exact Pst.here (by simpa using h1) R1 rfl⟩
theorem cw_or {m n : TMt} (h : CT X W O a m) (h2 : CW X W O (.BoolOp .Or (b :: rest) pos) n) : CW X W O (.BoolOp .Or (a :: b :: rest) pos) (bOr m n) :=
  pwI (pw_or h h2) fun σ H Q ⟨fr, S, G, R, h⟩ => ⟨fr, S, G, R, h.split fun x S1 u H1 G1 R1 st1 rx h1 => by
    subst rx
    cases x with
    | false => exact ⟨fr, S1, G1, R1, by simpa using h1⟩
    | true => exact Pst.here (by simpa using h1) R1 rfl⟩
theorem ct_w {m : TMt} (h : CW X W O a m) : CT X W O a m := L2.PW.pt h
theorem ct_not {m : TMt} (h : CT X W O a m) : CT X W O (.UnaryOp .Not a pos) (bNot m) :=
  ptI (pt_not h) fun σ H Q ⟨fr, S, G, R, h⟩ => ⟨fr, S, G, R, h.split fun x S1 u H1 G1 R1 st1 rx h1 => by
    subst rx
    exact h1.here R1 rfl⟩
theorem ce_if {c : Expr} {mc : TMt} {ma mb : EM} (hc : CT X W O c mc) (ha : CE X W O a ma) (hb : CE X W O b mb) : CE X W O (.IfExp c a b pos) (eIf mc ma mb) :=
  peI (pe_ifExp hc ha hb) fun σ H Q ⟨fr, S, G, R, h⟩ => ⟨fr, S, G, R, h.split fun x S1 u H1 G1 R1 st1 rx h1 => by
    subst rx
    cases x with
    | true => simpa using ⟨fr, S1, G1, R1, by simpa using h1⟩
    | false => simpa using ⟨fr, S1, G1, R1, by simpa using h1⟩⟩
theorem ce_one {op} {m : EM} (h : CE X W O a m) : CE X W O (.BoolOp op [a] pos) m := pe_one h
theorem ce_and {ma mb : EM} (ha : CE X W O a ma) (hb : CE X W O (.BoolOp .And (b :: rest) pos) mb) : CE X W O (.BoolOp .And (a :: b :: rest) pos) (eAnd ma mb) :=
  peI (pe_and ha hb) fun σ H Q ⟨fr, S, G, R, h⟩ => ⟨fr, S, G, R, h.split fun x S1 u H1 G1 R1 st1 rx h1 => by
    cases e : boolV x with
    | none => rw [e] at h1; exact h1.not_bad.elim
    | some c =>
      rw [e] at h1
      refine ⟨c, boolV_rel rx e, ?_⟩
      cases c with
      | true => simpa using ⟨fr, S1, G1, R1, by simpa using h1⟩
      | false =>
        rw [if_neg Bool.false_ne_true]
        exact Pst.here (by simpa using h1) R1 (Rp.bl false)⟩
def eChain (p q : SV → SV → Store → Rs SV) (a b c : EM) : EM := fun fr S => (a fr S).bind fun x S1 => (b fr S1).bind fun y S2 => (p x y S2).bind fun z S3 => match boolV z with
  | some k => if k = true then (c fr S3).bind fun w S4 => q y w S4 else .ok (.d (.bool false)) S3
  | none => .bad
end
inductive SR where
  | nx (fr : Fr) (S : Store)
  | bk (fr : Fr) (S : Store)
  | ct (fr : Fr) (S : Store)
  | rt (v : SV) (S : Store)
  | exc (x : Exc) (fr : Fr) (S : Store)
  | bad
abbrev SM := Fr → Store → SR
def Rs.toS {α : Type} (fr : Fr) : Rs α → (α → Store → SR) → SR
  | .ok a S, f => f a S
  | .exc x S, _ => .exc x fr S
  | .bad, _ => .bad
def SR.next : SR → (Fr → Store → SR) → SR
  | .nx fr S, f => f fr S
  | r, _ => r
structure SPst (M : Mo) (W : WX) (L O' : Own) (H : Hp) (G : Gh) (r : SR) (D : Ends) : Prop where
  good : r ≠ .bad
  nx : ∀ fr' S', r = .nx fr' S' → ∀ σ' H' G', Rel M O' σ' H' fr' S' G' → Adv G H G' H' → D.nx σ' H'
  bk : ∀ fr' S', r = .bk fr' S' → ∀ σ' H' G', Rel M L σ' H' fr' S' G' → Adv G H G' H' → D.bk σ' H'
  ct : ∀ fr' S', r = .ct fr' S' → ∀ σ' H' G', Rel M L σ' H' fr' S' G' → Adv G H G' H' → D.ct σ' H'
  rt : ∀ v S', r = .rt v S' → ∀ u H' G', Base M H' S' G' → Adv G H G' H' → RpS M G' H' v u → D.rt u H'
  exc : ∀ x fr' S', r = .exc x fr' S' → ∀ σ' H' G' cls d, Rel M [] σ' H' fr' S' G' → Adv G H G' H' → XRep M G' H' x cls d → W cls d σ' H'
def tS (M : Mo) (W : WX) (L O O' : Own) (m : SM) : TS := fun D σ H => ∃ fr S G, Rel M O σ H fr S G ∧ SPst M W L O' H G (m fr S) D
def CS (X : Cx) (W : WX) (L O : Own) (st : Stmt) (m : SM) (O' : Own) : Prop := PS X st (tS (.of X) W L O O' m)
def CSs (X : Cx) (W : WX) (L O : Own) (st : List Stmt) (m : SM) (O' : Own) : Prop := PSs X st (tS (.of X) W L O O' m)
theorem psI {X : Cx} {e : Stmt} {t t' : TS} (h : PS X e t) (i : ∀ D σ H, t' D σ H → t D σ H) : PS X e t' := ⟨fun pins s σ H D I q => h.run pins s σ H D I (i D σ H q)⟩
theorem pssI {X : Cx} {e : List Stmt} {t t' : TS} (h : PSs X e t) (i : ∀ D σ H, t' D σ H → t D σ H) : PSs X e t' := ⟨fun pins s σ H D I q => h.run pins s σ H D I (i D σ H q)⟩
def Own.le (O' O : Own) : Bool := (List.range O'.length).all fun i => !(O'[i]? == some true) || (O[i]? == some true)
theorem Own.le_has {O' O : Own} (h : Own.le O' O = true) (i : Nat) (hi : O'.has i) : O.has i := by
  unfold Own.has at hi ⊢
  have hl : i < O'.length := (List.getElem?_eq_some_iff.mp hi).1
  unfold Own.le at h
  rw [List.all_eq_true] at h
  have q := h i (List.mem_range.mpr hl)
  rw [hi] at q
  simpa using q
section
variable {M : Mo} {W : WX} {L O O' : Own} {σ : L2.St} {H : Hp} {fr : Fr} {S : Store} {G : Gh} {D : Ends}
theorem SPst.expr {α β : Type} {r : Rs α} {f : α → Store → SR} {rel : Gh → Hp → α → β → Prop} {Q : β → Hp → Prop} (R : Rel M O σ H fr S G) (h : SPst M W L O' H G (r.toS fr f) D)
    (next : ∀ (z : α) (S1 : Store) (u : β) (H1 : Hp) (G1 : Gh), Rel M O σ H1 fr S1 G1 → Stp G H G1 H1 → Adv G H G1 H1 → rel G1 H1 z u → SPst M W L O' H1 G1 (f z S1) D → Q u H1) : Pst M W O σ H fr G r rel Q := by
  refine ⟨fun e => h.good (by rw [e]; rfl), fun z S1 e u H1 G1 R1 st1 q => ?_, fun x S1 e H1 G1 cls d R1 st1 q => ?_⟩
  · have hb : r.toS fr f = f z S1 := by rw [e]; rfl
    rw [hb] at h
    have a := R.base.adv st1
    exact next z S1 u H1 G1 R1 st1 a q ⟨h.good, fun fr' S' e' σ' H' G' R' a' => h.nx fr' S' e' σ' H' G' R' (a.trans a'), fun fr' S' e' σ' H' G' R' a' => h.bk fr' S' e' σ' H' G' R' (a.trans a'),
      fun fr' S' e' σ' H' G' R' a' => h.ct fr' S' e' σ' H' G' R' (a.trans a'), fun v S' e' u H' G' B' a' r' => h.rt v S' e' u H' G' B' (a.trans a') r', fun x fr' S' e' σ' H' G' cls d R' a' r' => h.exc x fr' S' e' σ' H' G' cls d R' (a.trans a') r'⟩
  · have a := R.base.adv st1
    obtain ⟨G2, R2, a2⟩ := R1.freeze [] (fun i h => by simp [Own.has] at h)
    refine h.exc x fr S1 (by rw [e]; rfl) σ H1 G2 cls d R2 (a.trans a2) ?_
    obtain ⟨ca, h1, h2, h3⟩ := q
    refine ⟨ca, h1, h2, ?_⟩
    rcases h3 with h3 | ⟨fs, da, vs, e1, e2, e3, e4⟩
    · exact .inl h3
    · exact .inr ⟨fs, da, vs, e1, e2, e3, RpF.keep a2.keeps a2.pre e4⟩
theorem SPst.on {r : SR} (h : SPst M W L O' H G r D) {H1 : Hp} {G1 : Gh} (a : Adv G H G1 H1) : SPst M W L O' H1 G1 r D :=
  ⟨h.good, fun fr' S' e' σ' H' G' R' a' => h.nx fr' S' e' σ' H' G' R' (a.trans a'), fun fr' S' e' σ' H' G' R' a' => h.bk fr' S' e' σ' H' G' R' (a.trans a'),
      fun fr' S' e' σ' H' G' R' a' => h.ct fr' S' e' σ' H' G' R' (a.trans a'), fun v S' e' u H' G' B' a' r' => h.rt v S' e' u H' G' B' (a.trans a') r', fun x fr' S' e' σ' H' G' cls d R' a' r' => h.exc x fr' S' e' σ' H' G' cls d R' (a.trans a') r'⟩
theorem SPst.split {r : SR} {f : Fr → Store → SR} {O2 : Own} {N : L2.St → Hp → Prop} (h : SPst M W L O2 H G (r.next f) D)
    (next : ∀ (fr1 : Fr) (S1 : Store) (σ1 : L2.St) (H1 : Hp) (G1 : Gh), Rel M O' σ1 H1 fr1 S1 G1 → SPst M W L O2 H1 G1 (f fr1 S1) D → N σ1 H1) : SPst M W L O' H G r { D with nx := N } := by
  refine ⟨fun e => h.good (by rw [e]; rfl), fun fr1 S1 e σ1 H1 G1 R1 a1 => ?_, fun fr' S' e => h.bk fr' S' (by rw [e]; rfl), fun fr' S' e => h.ct fr' S' (by rw [e]; rfl), fun v S' e => h.rt v S' (by rw [e]; rfl), fun x fr' S' e => h.exc x fr' S' (by rw [e]; rfl)⟩
  have hb : r.next f = f fr1 S1 := by rw [e]; rfl
  rw [hb] at h
  exact next fr1 S1 σ1 H1 G1 R1 (h.on a1)
end
def sNx : SM := fun fr S => .nx fr S
def sSeq (m n : SM) : SM := fun fr S => (m fr S).next fun fr1 S1 => n fr1 S1
def sIf (c : TMt) (m n : SM) : SM := fun fr S => (c fr S).toS fr fun k S1 => if k = true then m fr S1 else n fr S1
def sRet (m : EM) : SM := fun fr S => (m fr S).toS fr fun v S1 => .rt v S1
def sDrop (m : EM) : SM := fun fr S => (m fr S).toS fr fun _ S1 => .nx fr S1
section
variable {X : Cx} {W : WX} {L O O1 O' : Own} {pos : Pos}
theorem css_nil : CSs X W L O [] sNx O := pssI pss_nil fun D σ H ⟨fr, S, G, R, h⟩ => h.nx fr S rfl σ H G R Adv.refl
theorem css_one {st : Stmt} {m : SM} (h : CS X W L O st m O') : CSs X W L O [st] m O' := pss_one h
theorem css_cons {st : Stmt} {rest : List Stmt} {m n : SM} (h : CS X W L O st m O1) (hr : CSs X W L O1 rest n O') : CSs X W L O (st :: rest) (sSeq m n) O' :=
  pssI (pss_cons h hr) fun D σ H ⟨fr, S, G, R, h⟩ => ⟨fr, S, G, R, h.split fun fr1 S1 σ1 H1 G1 R1 h1 => ⟨fr1, S1, G1, R1, h1⟩⟩
theorem css_let (O1 : Own) {rest : List Stmt} {m : SM} (hr : CSs X W L O1 rest m O') (hle : Own.le O1 O = true := by rfl) : CSs X W L O rest m O' :=
  pssI hr fun D σ H ⟨fr, S, G, R, h⟩ => by
    obtain ⟨G1, R1, a1⟩ := R.freeze O1 (Own.le_has hle)
    exact ⟨fr, S, G1, R1, h.on a1⟩
theorem css_end (O1 : Own) {rest : List Stmt} {m : SM} (hr : CSs X W L O rest m O1) (hle : Own.le O' O1 = true := by rfl) : CSs X W L O rest m O' :=
  pssI hr fun D σ H ⟨fr, S, G, R, h⟩ => ⟨fr, S, G, R, ⟨h.good, fun fr' S' e σ' H' G' R' a' => by
    obtain ⟨G1, R1, a1⟩ := R'.freeze O' (Own.le_has hle)
    exact h.nx fr' S' e σ' H' G1 R1 (a'.trans a1), h.bk, h.ct, h.rt, h.exc⟩⟩
theorem cs_if {c : Expr} {a b : List Stmt} {mc : TMt} {m n : SM} (hc : CT X W O c mc) (ha : CSs X W L O a m O') (hb : CSs X W L O b n O') : CS X W L O (.If c a b pos) (sIf mc m n) O' :=
  psI (ps_if hc ha hb) fun D σ H ⟨fr, S, G, R, h⟩ => ⟨fr, S, G, R, h.expr R fun k S1 u H1 G1 R1 st1 a1 e h1 => by
    subst e
    cases k with
    | true => simpa using ⟨fr, S1, G1, R1, by simpa using h1⟩
    | false => simpa using ⟨fr, S1, G1, R1, by simpa using h1⟩⟩
theorem cs_ret {e : Expr} {m : EM} (he : CE X W O e m) : CS X W L O (.Return (some e) pos) (sRet m) O' :=
  psI (ps_ret he) fun D σ H ⟨fr, S, G, R, h⟩ => ⟨fr, S, G, R, h.expr R fun v S1 u H1 G1 R1 st1 a1 r h1 => h1.rt v S1 rfl u H1 G1 R1.base Adv.refl r⟩
end
abbrev GM := SV → Fr → Option Fr
abbrev GMs := List PyData → Fr → Option Fr
def Out (ts : List Nat) (σ σ' : L2.St) : Prop := σ'.length = σ.length ∧ ∀ k, k ∉ ts → σ'[k]? = σ[k]?
theorem Out.refl {ts : List Nat} {σ : L2.St} : Out ts σ σ := ⟨rfl, fun _ _ => rfl⟩
theorem Out.app {ts us : List Nat} {σ σ1 σ2 : L2.St} (a : Out ts σ σ1) (b : Out us σ1 σ2) : Out (ts ++ us) σ σ2 :=
  ⟨b.1.trans a.1, fun k h => by
    rw [List.mem_append, not_or] at h
    rw [b.2 k h.2, a.2 k h.1]⟩
def tG (M : Mo) (O O' : Own) (ts : List Nat) (g : GM) : TG := fun u σ H Q => ∃ v fr S G fr', Rel M O σ H fr S G ∧ RpS M G H v u ∧ g v fr = some fr' ∧ ∀ σ', Rel M O' σ' H fr' S G → Out ts σ σ' → Q σ' H
def tGs (M : Mo) (O O' : Own) (ts : List Nat) (g : GMs) : TGs := fun us σ H Q => ∃ vs fr S G fr', Rel M O σ H fr S G ∧ RpAll M G.F H vs us ∧ g vs fr = some fr' ∧ ∀ σ', Rel M O' σ' H fr' S G → Out ts σ σ' → Q σ' H
def CG (X : Cx) (O : Own) (e : Expr) (g : GM) (O' : Own) (ts : List Nat) : Prop := PG X e (tG (.of X) O O' ts g)
def CGs (X : Cx) (O : Own) (e : List Expr) (g : GMs) (O' : Own) (ts : List Nat) : Prop := PGs X e (tGs (.of X) O O' ts g)
theorem pgI {X : Cx} {e : Expr} {t t' : TG} (h : PG X e t) (i : ∀ u σ H Q, t' u σ H Q → t u σ H Q) : PG X e t' := by
  obtain ⟨f⟩ := h
  exact ⟨fun pins s σ H x u Q I r q => f pins s σ H x u Q I r (i x σ H Q q)⟩
theorem pgsI {X : Cx} {e : List Expr} {t t' : TGs} (h : PGs X e t) (i : ∀ u σ H Q, t' u σ H Q → t u σ H Q) : PGs X e t' := by
  obtain ⟨f⟩ := h
  exact ⟨fun pins s σ H x u Q I r q => f pins s σ H x u Q I r (i x σ H Q q)⟩
def gSet (i : Nat) : GM := fun v fr => if i < fr.length then some (fr.set i (some v)) else none
def ggNil : GMs := fun xs fr => match xs with
  | [] => some fr
  | _ => none
def ggCons (g : GM) (h : GMs) : GMs := fun xs fr => match xs with
  | x :: xs => (g (.d x) fr).bind fun fr1 => h xs fr1
  | _ => none
def ggTup (n : Nat) (h : GMs) : GM := fun v fr => match v with
  | .d (.tuple ds) => if ds.length = n then h ds fr else none
  | _ => none
section
variable {X : Cx} {O O1 O' : Own} {pos : Pos} {ts us : List Nat}
theorem cg_name (i : Nat) {x : Str} (hN : X.N.Nodup) (hi : X.N[i]? = some x := by rfl) (hx : Loc X.env.scope x := by first | exact Or.inl rfl | exact Or.inr rfl) (hf : X.fn x = true ∨ X.env.scope.names.lookup x = some .local := by first | exact .inl rfl | exact .inr rfl) : CG X O (.Name x pos) (gSet i) (O.set i false) [i] :=
  pgI (pg_name hN hi hx hf) fun u σ H Q ⟨v, fr, S, G, fr', R, r, e, k⟩ => by
    unfold gSet at e
    split at e
    · rename_i hl
      cases e
      refine k _ (R.store (by rw [← R.len]; exact hl) r) ⟨by simp, fun j hj => ?_⟩
      rw [List.getElem?_set_ne (fun z => hj (by rw [z]; exact List.mem_cons_self))]
    · cases e
theorem cgs_nil : CGs X O [] ggNil O [] := pgsI pgs_nil fun u σ H Q ⟨v, fr, S, G, fr', R, r, e, k⟩ => by
  cases r with
  | nil =>
    cases e
    exact ⟨rfl, k σ R Out.refl⟩
  | cons _ _ => cases e
theorem cgs_cons {e : Expr} {es : List Expr} {g : GM} {h : GMs} (h1 : CG X O e g O1 ts) (h2 : CGs X O1 es h O' us) (hs : (assignEach (e :: es) X.env).map (·.2) = assign e X.env :: (assignEach es X.env).map (·.2) := by rfl) :
    CGs X O (e :: es) (ggCons g h) O' (ts ++ us) :=
  pgsI (pgs_cons h1 h2 hs) fun u σ H Q ⟨v, fr, S, G, fr', R, r, e, k⟩ => by
    cases r with
    | nil => cases e
    | @cons d ds v vs r t =>
      cases q : g (.d d) fr with
      | none => simp [ggCons, q] at e
      | some fr1 =>
        have e' : h ds fr1 = some fr' := by simpa [ggCons, q] using e
        exact ⟨_, _, rfl, .d d, fr, S, G, fr1, R, r, q, fun σ1 R1 o1 => ⟨_, fr1, S, G, fr', R1, t, e', fun σ2 R2 o2 => k σ2 R2 (o1.app o2)⟩⟩
theorem cg_tup {es : List Expr} {k : Nat} {h : GMs} {n : Nat} (hc : X.calm = true) (h1 : CGs X O es h O' ts) (hn : (assignEach es X.env).length = n := by rfl) (hst : (assignEach es X.env).findIdx? (·.1) = none := by rfl) :
    CG X O (.Tuple es k pos) (ggTup n h) O' ts :=
  pgI (pg_tup hc h1 hn hst) fun u σ H Q ⟨v, fr, S, G, fr', R, r, e, k⟩ => by
    unfold ggTup at e
    split at e
    · split at e
      · rename_i hl
        cases r with
        | tup q rr => exact ⟨_, _, rfl, q, by rw [← rr.length]; exact hl, _, fr, S, G, fr', R, rr, e, k⟩
      · cases e
    · cases e
end
abbrev FM := Fr → Store → Rs (SV × Fr)
structure FPst (M : Mo) (W : WX) (O : Own) (σ : L2.St) (H : Hp) (G : Gh) (r : Rs (SV × Fr)) (fr : Fr) (Q : VK) : Prop where
  good : r ≠ .bad
  ok : ∀ v fr' S', r = .ok (v, fr') S' → ∀ u H' G', Rel M O σ H' fr' S' G' → Adv G H G' H' → RpS M G' H' v u → Q u H'
  exc : ∀ x S', r = .exc x S' → ∀ H' G' cls d, Rel M O σ H' fr S' G' → Adv G H G' H' → XRep M G' H' x cls d → W cls d σ H'
def tF (M : Mo) (W : WX) (O : Own) (m : FM) : TE := fun σ H Q => ∃ fr S G, Rel M O σ H fr S G ∧ FPst M W O σ H G (m fr S) fr Q
def CF (X : Cx) (W : WX) (O : Own) (e : Expr) (m : FM) : Prop := PE X e (tF (.of X) W O m)
def fE (m : EM) : FM := fun fr S => (m fr S).bind fun v S1 => .ok (v, fr) S1
theorem cf_of {X : Cx} {W : WX} {O : Own} {e : Expr} {m : EM} (h : CE X W O e m) : CF X W O e (fE m) :=
  peI h fun σ H Q ⟨fr, S, G, R, h⟩ => ⟨fr, S, G, R, fun e => h.good (by unfold fE; rw [e]; rfl), fun v S' e u H' G' R' st r => h.ok v fr S' (by unfold fE; rw [e]; rfl) u H' G' R' (R.base.adv st) r,
    fun x S' e H' G' cls d R' st r => h.exc x S' (by unfold fE; rw [e]; rfl) H' G' cls d R' (R.base.adv st) r⟩
def ofG : Option Fr → Store → SR
  | some fr, S => .nx fr S
  | none, _ => .bad
def sAsg (g : GM) (m : FM) : SM := fun fr S => (m fr S).toS fr fun p S1 => ofG (g p.1 p.2) S1
section
variable {X : Cx} {W : WX} {L O O' : Own} {pos : Pos} {ts : List Nat}
theorem SPst.expF {M : Mo} {σ : L2.St} {H : Hp} {fr : Fr} {G : Gh} {D : Ends} {r : Rs (SV × Fr)} {f : SV × Fr → Store → SR} {Q : VK} (h : SPst M W L O' H G (r.toS fr f) D)
    (next : ∀ (v : SV) (fr1 : Fr) (S1 : Store) (u : V) (H1 : Hp) (G1 : Gh), Rel M O σ H1 fr1 S1 G1 → RpS M G1 H1 v u → SPst M W L O' H1 G1 (f (v, fr1) S1) D → Q u H1) : FPst M W O σ H G r fr Q := by
  refine ⟨fun e => h.good (by rw [e]; rfl), fun v fr1 S1 e u H1 G1 R1 a1 q => ?_, fun x S1 e H1 G1 cls d R1 a1 q => ?_⟩
  · have hb : r.toS fr f = f (v, fr1) S1 := by rw [e]; rfl
    rw [hb] at h
    exact next v fr1 S1 u H1 G1 R1 q (h.on a1)
  · obtain ⟨G2, R2, a2⟩ := R1.freeze [] (fun i h => by simp [Own.has] at h)
    refine h.exc x fr S1 (by rw [e]; rfl) σ H1 G2 cls d R2 (a1.trans a2) ?_
    obtain ⟨ca, h1, h2, h3⟩ := q
    refine ⟨ca, h1, h2, ?_⟩
    rcases h3 with h3 | ⟨fs, da, vs, e1, e2, e3, e4⟩
    · exact .inl h3
    · exact .inr ⟨fs, da, vs, e1, e2, e3, RpF.keep a2.keeps a2.pre e4⟩
theorem cs_asg {tg e : Expr} {g : GM} {m : FM} (he : CF X W O e m) (hg : CG X O tg g O' ts) (hs : swapsWithSole [tg] e pos.line X.env = pure false := by rfl) (hw : swappedStores [tg] e X.env = pure none := by rfl)
    (h1 : (assignEach [tg] X.env).map (·.2) = [assign tg X.env] := by rfl) : CS X W L O (.Assign [tg] e pos) (sAsg g m) O' :=
  psI (ps_asg he hg hs hw h1) fun D σ H ⟨fr, S, G, R, h⟩ => ⟨fr, S, G, R, h.expF fun v fr1 S1 u H1 G1 R1 r h1 => by
    cases q : g v fr1 with
    | none => exact (h1.good (by simp [ofG, q])).elim
    | some fr2 => exact ⟨v, fr1, S1, G1, fr2, R1, r, q, fun σ2 R2 _ => h1.nx fr2 S1 (by simp [ofG, q]) σ2 H1 G1 R2 Adv.refl⟩⟩
theorem cs_set (i : Nat) {x : Str} {e : Expr} {m : EM} {pos' : Pos} (hN : X.N.Nodup) (he : CE X W O e m) (hi : X.N[i]? = some x := by rfl) (hx : Loc X.env.scope x := by first | exact Or.inl rfl | exact Or.inr rfl) (hs : swapsWith e (some (.Name x pos')) pos.line X.env = pure false := by rfl)
    (hf : X.fn x = true ∨ X.env.scope.names.lookup x = some .local := by first | exact .inl rfl | exact .inr rfl) : CS X W L O (.Assign [.Name x pos'] e pos) (sAsg (gSet i) (fE m)) (O.set i false) := by
  refine psI (ps_set hN hi hx (cf_of he) hs hf) fun D σ H ⟨fr, S, G, R, h⟩ => ⟨fr, S, G, R, h.expF fun v fr1 S1 u H1 G1 R1 r h1 => ?_⟩
  by_cases hl : i < fr1.length
  · exact h1.nx (fr1.set i (some v)) S1 (by simp [ofG, gSet, hl]) _ H1 G1 (R1.store (by rw [← R1.len]; exact hl) r) Adv.refl
  · exact (h1.good (by simp [ofG, gSet, hl])).elim
end
end PD
namespace PD
open PySem PySem.Spec PyProof.Rows L2 RZ
end PD
namespace PD
open PySem PySem.Spec PyProof.Rows L2
def whileF (c : TMt) (m : SM) : Nat → SM
  | 0 => fun _ _ => .bad
  | n + 1 => fun fr S => (c fr S).toS fr fun k S1 => if k = true then (match m fr S1 with
      | .nx fr2 S2 => whileF c m n fr2 S2
      | .ct fr2 S2 => whileF c m n fr2 S2
      | .bk fr2 S2 => .nx fr2 S2
      | r => r) else .nx fr S1
def fuel : Nat := 1000000000
def sWhile (c : TMt) (m : SM) : SM := whileF c m fuel
section
variable {X : Cx} {W : WX} {L O O1 O' : Own} {pos : Pos}
theorem cs_while {c : Expr} {body : List Stmt} {mc : TMt} {m : SM} (hp : PassesOwn (model X.prog X.w) X.A X.env X.xe) (hc : CT X W O c mc) (hb : CSs X W O O body m O) : CS X W L O (.While c body [] pos) (sWhile mc m) O := by
  refine psI (ps_while hp hc hb) fun D σ H ⟨fr, S, G, R, h⟩ => ?_
  refine ⟨fun n σ' H' => ∃ fr S G, Rel (.of X) O σ' H' fr S G ∧ SPst (.of X) W L O H' G (whileF mc m n fr S) D, ⟨fuel, fr, S, G, R, h⟩, ?_⟩
  rintro n σ1 H1 ⟨fr, S, G, R, h⟩
  cases n with
  | zero => exact (h.good rfl).elim
  | succ n =>
    refine ⟨fr, S, G, R, h.expr (O := O) R fun k S1 u H2 G1 R1 st1 a1 e h1 => ?_⟩
    subst e
    cases k with
    | false =>
      rw [if_neg Bool.false_ne_true] at h1 ⊢
      exact h1.nx fr S1 rfl σ1 H2 G1 R1 Adv.refl
    | true =>
      rw [if_pos rfl] at h1 ⊢
      refine ⟨fun σ' H' => ∃ fr S G, Rel (.of X) O σ' H' fr S G ∧ SPst (.of X) W L O H' G (whileF mc m n fr S) D, fun σ' H' q => ⟨n, Nat.lt_succ_self n, q⟩, fr, S1, G1, R1, ?_⟩
      refine ⟨fun e => h1.good (by rw [e]), fun fr' S' e σ' H' G' R' a' => ?_, fun fr' S' e σ' H' G' R' a' => ?_, fun fr' S' e σ' H' G' R' a' => ?_, fun v S' e => ?_, fun x fr' S' e => ?_⟩
      · rw [e] at h1
        exact ⟨fr', S', G', R', h1.on a'⟩
      · rw [e] at h1
        exact h1.nx fr' S' rfl σ' H' G' R' a'
      · rw [e] at h1
        exact ⟨fr', S', G', R', h1.on a'⟩
      · rw [e] at h1
        exact h1.rt v S' rfl
      · rw [e] at h1
        exact h1.exc x fr' S' rfl
def forF (g : GM) (m : SM) : List SV → SM
  | [] => sNx
  | x :: xs => fun fr S => match g x fr with
    | none => .bad
    | some fr1 => match m fr1 S with
      | .nx fr2 S2 => forF g m xs fr2 S2
      | .ct fr2 S2 => forF g m xs fr2 S2
      | .bk fr2 S2 => .nx fr2 S2
      | r => r
def sFor (g : GM) (it : AM) (m : SM) : SM := fun fr S => (it fr S).toS fr fun xs S1 => forF g m xs fr S1
def ItR (M : Mo) (G : Gh) (H : Hp) (xs : List SV) (J : It) : Prop := ∀ S' G' H', Base M H' S' G' → Adv G H G' H' → J.stop xs.length H' ∧
  ∀ i x, xs[i]? = some x → J.go i H' ∧ ∀ u H2, J.yld i H' u H2 → Base M H2 S' G' ∧ Stp G' H' G' H2 ∧ RpS M G' H2 x u
def tI (M : Mo) (W : WX) (O : Own) (m : AM) : TI := fun σ H R => ∃ fr S G, Rel M O σ H fr S G ∧ Pst M W O σ H fr G (m fr S) (ItR M) R
def CI (X : Cx) (W : WX) (O : Own) (tg e : Expr) (m : AM) : Prop := PI X tg e (tI (.of X) W O m)
theorem piI {X : Cx} {tg e : Expr} {t t' : TI} (h : PI X tg e t) (i : ∀ σ H R, t' σ H R → t σ H R) : PI X tg e t' := ⟨fun pins s σ H R I q => h.run pins s σ H R I (i σ H R q)⟩
theorem cs_for {tg iter : Expr} {body : List Stmt} {g : GM} {it : AM} {m : SM} {ts : List Nat} (hp : PassesOwn (model X.prog X.w) X.A X.env X.xe) (hc : X.calm = true) (hi : CI X W O tg iter it) (hg : CG X O tg g O1 ts) (hb : CSs X W O O1 body m O)
    (hs : ∀ x, foldedSetIterable iter X.env x = pure x := by intro _; rfl) : CS X W L O (.For tg iter body [] pos) (sFor g it m) O := by
  refine psI (ps_for hp hc hi hg hb hs) fun D σ H ⟨fr, S, G, R, h⟩ => ⟨fr, S, G, R, h.expr (O := O) R fun xs S1 J H1 G1 R1 st1 a1 J1 h1 => ?_⟩
  refine ⟨fun i n σ' H' => n = xs.length - i ∧ i ≤ xs.length ∧ ∃ fr S G, Rel (.of X) O σ' H' fr S G ∧ Adv G1 H1 G H' ∧ SPst (.of X) W L O H' G (forF g m (xs.drop i) fr S) D, ⟨xs.length, by omega, by omega, fr, S1, G1, R1, Adv.refl, by simpa using h1⟩, ?_⟩
  rintro i n σ2 H2 ⟨rfl, hle, fr, S, G, R, a, h⟩
  by_cases hlt : i < xs.length
  · right
    have hd : xs.drop i = xs[i] :: xs.drop (i + 1) := List.drop_eq_getElem_cons hlt
    rw [hd] at h
    obtain ⟨_, it1⟩ := J1 S G H2 R.base a
    obtain ⟨go, yld⟩ := it1 i xs[i] (List.getElem?_eq_getElem hlt)
    refine ⟨go, fun σ' H' => xs.length - (i + 1) = xs.length - (i + 1) ∧ i + 1 ≤ xs.length ∧ ∃ fr S G, Rel (.of X) O σ' H' fr S G ∧ Adv G1 H1 G H' ∧ SPst (.of X) W L O H' G (forF g m (xs.drop (i + 1)) fr S) D, fun σ' H' q => ⟨_, by omega, q⟩, fun u H3 y => ?_⟩
    obtain ⟨B3, st3, r3⟩ := yld u H3 y
    have R3 : Rel (.of X) O σ2 H3 fr S G := R.step st3 B3
    have a3 : Adv G H2 G H3 := R.base.adv st3
    have h3 := h.on a3
    cases q : g xs[i] fr with
    | none => exact (h3.good (by simp [forF, q])).elim
    | some fr1 =>
      refine ⟨xs[i], fr, S, G, fr1, R3, r3, q, fun σ4 R4 _ => ⟨fr1, S, G, R4, ?_⟩⟩
      have he : forF g m (xs[i] :: xs.drop (i + 1)) fr S = (match m fr1 S with
        | .nx fr2 S2 => forF g m (xs.drop (i + 1)) fr2 S2
        | .ct fr2 S2 => forF g m (xs.drop (i + 1)) fr2 S2
        | .bk fr2 S2 => .nx fr2 S2
        | r => r) := by simp only [forF, q]
      rw [he] at h3
      refine ⟨fun e => h3.good (by rw [e]), fun fr' S' e σ' H' G' R' a' => ?_, fun fr' S' e σ' H' G' R' a' => ?_, fun fr' S' e σ' H' G' R' a' => ?_, fun v S' e => ?_, fun x fr' S' e => ?_⟩
      · rw [e] at h3
        exact ⟨rfl, hlt, fr', S', G', R', (a.trans a3).trans a', h3.on a'⟩
      · rw [e] at h3
        exact h3.nx fr' S' rfl σ' H' G' R' a'
      · rw [e] at h3
        exact ⟨rfl, hlt, fr', S', G', R', (a.trans a3).trans a', h3.on a'⟩
      · rw [e] at h3
        exact h3.rt v S' rfl
      · rw [e] at h3
        exact h3.exc x fr' S' rfl
  · left
    have e : i = xs.length := by omega
    subst e
    rw [List.drop_length] at h
    exact ⟨(J1 S G H2 R.base a).1, h.nx fr S rfl σ2 H2 G R Adv.refl⟩
end
def chr (c : Nat) : SV := .d (.str ⟨#[c]⟩)
def iterV : SV → Option (List SV)
  | .d (.list ds) => some (ds.map .d)
  | .d (.tuple ds) => some (ds.map .d)
  | .d (.str z) => some (z.cps.toList.map chr)
  | _ => none
def iSeq (m : EM) : AM := fun fr S => (m fr S).bind fun x S1 => ofO (iterV x) S1
section
variable {M : Mo} {G G' : Gh} {H H' : Hp} {S : Store}
theorem Adv.sqT (a : Adv G H G' H') {K : PySem.W.Frag} {p : Addr} {xs : List V} (h : SqT K H p xs) : SqT K H' p xs := a.keeps.sqT h
theorem Adv.rpAll (a : Adv G H G' H') {ds : List PyData} {vs : List V} (h : RpAll M G.F H ds vs) : RpAll M G'.F H' ds vs := RpAll.keep a.keeps h
theorem map_get {ds : List PyData} {vs : List V} {i : Nat} {x : SV} (r : RpAll M G.F H ds vs) (h : (ds.map SV.d)[i]? = some x) : ∃ d v, x = .d d ∧ ds[i]? = some d ∧ vs[i]? = some v ∧ Rp M G.F H d v := by
  rw [List.getElem?_map] at h
  cases e : ds[i]? with
  | none => rw [e] at h; cases h
  | some d =>
    rw [e] at h
    obtain ⟨v, h1, h2⟩ := r.get e
    exact ⟨d, v, (Option.some.inj h).symm, rfl, h1, h2⟩
theorem itR_list {p : Addr} {ds : List PyData} {vs : List V} (f : G.F p) (q : H p = some (.lst vs)) (r : RpAll M G.F H ds vs) : ItR M G H (ds.map .d) (Itl M.K p) := fun S' G' H' B a => by
  have q' : H' p = some (.lst vs) := a.keeps.frozen p _ f q
  have s' : SqL M.K H' p vs := SqL.of q'
  have r' := a.rpAll r
  refine ⟨⟨vs, s', by rw [List.length_map, r.length]; exact Nat.le_refl _⟩, fun i x hx => ?_⟩
  obtain ⟨d, v, rfl, _, hv, rd⟩ := map_get r' hx
  refine ⟨⟨vs, v, s', hv⟩, fun u H2 y => ?_⟩
  obtain ⟨rfl, y⟩ := y
  have e := y vs s'
  rw [hv] at e
  cases e
  exact ⟨B, Stp.refl, rd⟩
theorem itR_tup {p : Addr} {ds : List PyData} {vs : List V} (q : SqT M.K H p vs) (r : RpAll M G.F H ds vs) : ItR M G H (ds.map .d) (Itt M.K p) := fun S' G' H' B a => by
  have s' : SqT M.K H' p vs := a.sqT q
  have r' := a.rpAll r
  refine ⟨⟨vs, s', by rw [List.length_map, r.length]; exact Nat.le_refl _⟩, fun i x hx => ?_⟩
  obtain ⟨d, v, rfl, _, hv, rd⟩ := map_get r' hx
  refine ⟨⟨vs, v, s', hv⟩, fun u H2 y => ?_⟩
  obtain ⟨rfl, y⟩ := y
  have e := y vs s'
  rw [hv] at e
  cases e
  exact ⟨B, Stp.refl, rd⟩
theorem itR_str {z : Str} : ItR M G H (z.cps.toList.map chr) (Its z) := fun S' G' H' B a => by
  refine ⟨by show z.cps.size ≤ _; simp, fun i x hx => ?_⟩
  rw [List.getElem?_map] at hx
  cases e : z.cps.toList[i]? with
  | none => rw [e] at hx; cases hx
  | some c =>
    rw [e] at hx
    have hx' : chr c = x := Option.some.inj hx
    subst hx'
    have hi : i < z.cps.size := by
      have := (List.getElem?_eq_some_iff.mp e).1
      simpa using this
    refine ⟨hi, fun u H2 y => ?_⟩
    obtain ⟨rfl, c', hc, rfl⟩ := y
    have : c' = c := by
      rw [Array.getElem?_toList] at e
      rw [e] at hc
      exact (Option.some.inj hc).symm
    subst this
    exact ⟨B, Stp.refl, Rp.str _⟩
theorem itR_range {lo : Int} {n : Nat} : ItR M G H ((List.range n).map fun i => SV.d (.int (lo + (i : Nat)))) (Itr lo n) := fun S' G' H' B a => by
  refine ⟨by show n ≤ _; simp, fun i x hx => ?_⟩
  rw [List.getElem?_map] at hx
  by_cases hi : i < n
  · rw [List.getElem?_range hi] at hx
    have hx' : SV.d (.int (lo + (i : Nat))) = x := Option.some.inj hx
    subst hx'
    refine ⟨hi, fun u H2 y => ?_⟩
    obtain ⟨rfl, rfl⟩ := y
    exact ⟨B, Stp.refl, Rp.int _⟩
  · rw [List.getElem?_eq_none (by simpa using hi)] at hx
    cases hx
end
def iAny (K : PySem.W.Frag) (tl : TE) : TI := fun σ H R => tl σ H fun x H1 => (∃ a, x = .ref a ∧ (∃ xs, SqL K H1 a xs) ∧ R (Itl K a) H1) ∨ (∃ a, x = .ref a ∧ (∃ xs, SqT K H1 a xs) ∧ R (Itt K a) H1) ∨ ∃ z, x = .str z ∧ R (Its z) H1
theorem pi_any {X : Cx} {tg l : Expr} {tl : TE} (hl : PE X l tl) : PI X tg l (iAny X.K tl) := by
  refine ⟨fun pins s σ H R I h => ?_⟩
  refine thn (hl.run pins s σ H _ I h) fun v s1 ⟨x, H1, I1, r1, q1⟩ => ?_
  rcases q1 with ⟨a, e, ⟨xs, hq⟩, q⟩ | ⟨a, e, ⟨xs, hq⟩, q⟩ | ⟨z, e, q⟩
  · subst e
    cases r1
    obtain ⟨its, rv, p, hz⟩ := I1.list hq
    refine wpAny_pyIter_list p.isList ⟨s1.heap.objs.size, [s1.heap.objs.size], _, _, H1, rfl, I1.kept (t' := s1.toks) fun b o e => Heap.get?_push_of_some _ e, turn_list a _, ⟨_, Heap.get?_push_size _ rfl, rfl, rfl⟩, ?_, q⟩
    intro b hb
    obtain rfl : b = s1.heap.objs.size := by simpa using hb
    exact I1.fpOk (Nat.le_refl _) (I1.hok.fresh (Nat.le_refl _))
  · subst e
    cases r1
    obtain ⟨its, rv, p, hz⟩ := I1.tuple hq
    refine wpAny_pyIter_tuple (show s1.heap.IsTuple a its.toArray from p) ⟨s1.heap.objs.size, [s1.heap.objs.size], _, _, H1, rfl, I1.kept (t' := s1.toks) fun b o e => Heap.get?_push_of_some _ e, turn_tuple a _, ⟨_, Heap.get?_push_size _ rfl, rfl, rfl⟩, ?_, q⟩
    intro b hb
    obtain rfl : b = s1.heap.objs.size := by simpa using hb
    exact I1.fpOk (Nat.le_refl _) (I1.hok.fresh (Nat.le_refl _))
  · subst e
    obtain ⟨t, rfl⟩ := r1
    cases ha : z.cps.all (· < 128) with
    | false => exact wpAny_pyIter_wide ha (pi_one (tk := s1.toks) I1 _ (turn_str _ z t "str_iterator" (.inr rfl)) ⟨_, Heap.get?_push_size _ rfl, rfl, rfl⟩ q)
    | true => exact wpAny_pyIter_ascii ha (pi_one (tk := s1.toks) I1 _ (turn_str _ z t "str_ascii_iterator" (.inl rfl)) ⟨_, Heap.get?_push_size _ rfl, rfl, rfl⟩ q)
def big62 (i : Int) : Bool := decide (-(2 ^ 62) ≤ i) && decide (i < 2 ^ 62)
def rngL (lo hi : Int) : List SV := (List.range (hi - lo).toNat).map fun i => SV.d (.int (lo + (i : Nat)))
def rng1V : List SV → Store → Rs (List SV)
  | [.d (.int j)], S => if big62 j = true then .ok (rngL 0 j) S else .bad
  | _, _ => .bad
def iA (p : List SV → Store → Rs (List SV)) (a : AM) : AM := fun fr S => (a fr S).bind fun xs S1 => p xs S1
section
variable {X : Cx} {W : WX} {O : Own} {tg : Expr}
theorem ci_any {e : Expr} {m : EM} (he : CE X W O e m) : CI X W O tg e (iSeq m) :=
  piI (pi_any he) fun σ H R ⟨fr, S, G, R0, h⟩ => ⟨fr, S, G, R0, h.split fun x S1 u H1 G1 R1 st1 rx h1 => by
    cases e : iterV x with
    | none => rw [e] at h1; exact h1.not_bad.elim
    | some xs =>
      rw [e] at h1
      unfold iterV at e
      split at e
      · cases e
        cases rx with
        | lst f q r => exact .inl ⟨_, rfl, ⟨_, SqL.of q⟩, h1.here R1 (itR_list f q r)⟩
      · cases e
        cases rx with
        | tup q r => exact .inr (.inl ⟨_, rfl, ⟨_, q⟩, h1.here R1 (itR_tup q r)⟩)
      · cases e
        cases rx
        exact .inr (.inr ⟨_, rfl, h1.here R1 itR_str⟩)
      · cases e⟩
theorem ci_range1 {a : Expr} {m : AM} {p pos : Pos} (hg : Gl X "range") (hm : X.mg "range" = none) (ha : CA X W O [a] m) (hs : starEach [a] X.env = [(false, eval a X.env)] := by rfl) : CI X W O tg (.Call (.Name "range" p) [a] [] pos) (iA rng1V m) :=
  piI (pi_range1 hg hm ha hs) fun σ H R ⟨fr, S, G, R0, h⟩ => ⟨fr, S, G, R0, h.split fun xs S1 us H1 G1 R1 st1 rs h1 => by
    unfold rng1V at h1
    split at h1
    · split at h1
      · rename_i hz
        obtain ⟨u, rfl, ru⟩ := rs.one
        cases ru
        simp only [big62, Bool.and_eq_true, decide_eq_true_eq] at hz
        unfold rngL at h1
        rw [Int.sub_zero] at h1
        exact ⟨_, rfl, hz.1, hz.2, h1.here R1 itR_range⟩
      · exact h1.not_bad.elim
    · exact h1.not_bad.elim⟩
def i1 (p : SV → Store → Rs (List SV)) (a : EM) : AM := fun fr S => (a fr S).bind fun x S1 => p x S1
theorem pair_step {M : Mo} {G G' : Gh} {H H' : Hp} {S' : Store} {T : Addr} {v w : V} {a b : PyData} (B : Base M H' S' G') (hT : H' T = none) (ra : Rp M G'.F H' a v) (rb : Rp M G'.F H' b w) :
    Base M (upd H' T (.tup [v, w])) S' G' ∧ Stp G' H' G' (upd H' T (.tup [v, w])) ∧ RpS M G' (upd H' T (.tup [v, w])) (.d (.tuple [a, b])) (.ref T) := by
  obtain ⟨B2, st⟩ := B.newT (o := .tup [v, w]) hT
  exact ⟨B2, st, .tup (.inl (.inl upd_same)) (RpAll.keep (B.keeps st) (.cons ra (.cons rb .nil)))⟩
inductive SqR (M : Mo) (G : Gh) (H : Hp) : Bool → PyData → Addr → List PyData → Prop
  | lst {a : Addr} {ds : List PyData} {vs : List V} : G.F a → H a = some (.lst vs) → RpAll M G.F H ds vs → SqR M G H false (.list ds) a ds
  | tup {a : Addr} {ds : List PyData} {vs : List V} : SqT M.K H a vs → RpAll M G.F H ds vs → SqR M G H true (.tuple ds) a ds
theorem SqR.on {M : Mo} {G G' : Gh} {H H' : Hp} {t : Bool} {x : PyData} {a : Addr} {ds : List PyData} (A : Adv G H G' H') (h : SqR M G H t x a ds) : SqR M G' H' t x a ds := by
  cases h with
  | lst f q r => exact .lst (A.keeps.sub _ f) (A.keeps.frozen _ _ f q) (A.rpAll r)
  | tup q r => exact .tup (A.sqT q) (A.rpAll r)
end
def ItS (M : Mo) (G : Gh) (H : Hp) (xs : List SV) (J : It) : Prop := ∀ S' G' H', Base M H' S' G' → Stp G H G' H' → J.stop xs.length H' ∧
  ∀ i x, xs[i]? = some x → J.go i H' ∧ ∀ u H2, J.yld i H' u H2 → Base M H2 S' G' ∧ Stp G' H' G' H2 ∧ RpS M G' H2 x u
def tIs (M : Mo) (W : WX) (O : Own) (m : AM) : TI := fun σ H R => ∃ fr S G, Rel M O σ H fr S G ∧ Pst M W O σ H fr G (m fr S) (ItS M) R
def CIs (X : Cx) (W : WX) (O : Own) (tg e : Expr) (m : AM) : Prop := PI X tg e (tIs (.of X) W O m)
section
variable {X : Cx} {W : WX} {O : Own} {tg : Expr}
theorem cis_of {e : Expr} {m : AM} (h : CI X W O tg e m) : CIs X W O tg e m := piI h fun σ H R ⟨fr, S, G, R0, h⟩ => ⟨fr, S, G, R0, h.good, fun z S' e J H' G' R' st r => h.ok z S' e J H' G' R' st fun S2 G2 H2 B2 st2 => r S2 G2 H2 B2 (R'.base.adv st2), h.exc⟩
theorem itS_own {M : Mo} {G : Gh} {H : Hp} {S : Store} {p : Addr} {ds : List PyData} {vs : List V} (B0 : Base M H S G) (n : p ∉ G.rho) (q : H p = some (.lst vs)) (r : RpAll M G.F H ds vs) : ItS M G H (ds.map .d) (Itl M.K p) := fun S' G' H' B st => by
  have s' : SqL M.K H' p vs := SqL.of (st.keep p _ q n)
  have r' := RpAll.keep (B0.keeps st) r
  refine ⟨⟨vs, s', by rw [List.length_map, r.length]; exact Nat.le_refl _⟩, fun i x hx => ?_⟩
  obtain ⟨d, v, rfl, _, hv, rd⟩ := map_get r' hx
  refine ⟨⟨vs, v, s', hv⟩, fun u H2 y => ?_⟩
  obtain ⟨rfl, y⟩ := y
  have e := y vs s'
  rw [hv] at e
  cases e
  exact ⟨B, Stp.refl, rd⟩
theorem cis_any {e : Expr} {m : EM} (he : CV X W O e m) : CIs X W O tg e (iSeq m) :=
  piI (pi_any he) fun σ H R ⟨fr, S, G, R0, h⟩ => ⟨fr, S, G, R0, h.split fun x S1 u H1 G1 R1 st1 rx h1 => by
    have toS : ∀ {xs : List SV} {J : It}, ItR (.of X) G1 H1 xs J → ItS (.of X) G1 H1 xs J := fun r S2 G2 H2 B2 st2 => r S2 G2 H2 B2 (R1.base.adv st2)
    cases e : iterV x with
    | none => rw [e] at h1; exact h1.not_bad.elim
    | some xs =>
      rw [e] at h1
      unfold iterV at e
      split at e
      · cases e
        cases rx with
        | val rx =>
          cases rx with
          | lst f q r => exact .inl ⟨_, rfl, ⟨_, SqL.of q⟩, h1.here R1 (toS (itR_list f q r))⟩
        | own n q r => exact .inl ⟨_, rfl, ⟨_, SqL.of q⟩, h1.here R1 (itS_own R1.base n q r)⟩
      · cases e
        obtain ⟨_, _, rfl, q, r⟩ := rx.tup
        exact .inr (.inl ⟨_, rfl, ⟨_, q⟩, h1.here R1 (toS (itR_tup q r))⟩)
      · cases e
        obtain rfl := rx.str
        exact .inr (.inr ⟨_, rfl, h1.here R1 (toS itR_str)⟩)
      · cases e⟩
end
end PD
namespace PD
open PySem PySem.Spec PyProof.Rows L2
def tN (M : Mo) (W : WX) (O : Own) (m : EM) : TE := fun σ H Q => ∃ fr S G, Rel M O σ H fr S G ∧ Pst M W O σ H fr G (m fr S) (fun G' H' v u => ∃ a, u = .ref a ∧ Tmp M H a v G' H') Q
def CN (X : Cx) (W : WX) (O : Own) (e : Expr) (m : EM) : Prop := PE X e (tN (.of X) W O m)
section
variable {M : Mo} {W : WX} {O : Own} {m : EM} {σ : L2.St} {H : Hp} {Q : VK}
theorem tN_of_tM (h : tM M W O m σ H Q) : tN M W O m σ H Q := by
  obtain ⟨fr, S, G, R, h⟩ := h
  refine ⟨fr, S, G, R, h.good, fun z S' e u H' G' R' st ⟨a, eu, t⟩ => ?_, h.exc⟩
  subst eu
  obtain ⟨x, rfl⟩ := Cont.data t.cont
  obtain ⟨G2, R2, st2, r⟩ := R'.tmpFreeze st t (fun i v o e1 e2 => R.own_there o e1 e2 t.new) (by rw [st.h0]; exact (R.base.new0 t.new).1)
  exact h.ok _ S' e _ H' G2 R2 st2 r
end
section
variable {X : Cx} {W : WX} {L O : Own} {pos : Pos}
theorem ce_of_cn {e : Expr} {m : EM} (h : CN X W O e m) : CE X W O e m := peI h fun σ H Q q => tN_of_tM q
def sOwn (i : Nat) (n : Nat) (m : EM) : SM := fun fr S => (m fr S).toS fr fun v S1 => if i < fr.length ∧ i < n then .nx (fr.set i (some v)) S1 else .bad
theorem own_store {O' : Own} {σ : L2.St} {H : Hp} {i : Nat} {m : EM} {D : Ends} (h : tS (.of X) W L O (O.set i true) (sOwn i O.length m) D σ H) : tN (.of X) W O m σ H fun x H1 => gName i x σ H1 D.nx := by
  obtain ⟨fr, S, G, R, h⟩ := h
  refine ⟨fr, S, G, R, h.expr R fun v S1 u H1 G1 R1 st1 a1 ⟨a, eu, t⟩ h1 => ?_⟩
  subst eu
  by_cases hl : i < fr.length ∧ i < O.length
  · have n0 : G1.H0 a = none := by rw [st1.h0]; exact (R.base.new0 t.new).1
    exact h1.nx (fr.set i (some v)) S1 (by rw [if_pos hl]) _ H1 G1 (R1.storeOwn (by rw [← R1.len]; exact hl.1) hl.2 t.nf t.nr n0 t.cont fun j w oj e1 e2 => R.own_there oj e1 e2 t.new) Adv.refl
  · exact (h1.good (by rw [if_neg hl])).elim
theorem cs_own (i : Nat) {x : Str} {e : Expr} {m : EM} {pos' : Pos} (hN : X.N.Nodup) (he : CN X W O e m) (hi : X.N[i]? = some x := by rfl) (hx : Loc X.env.scope x := by first | exact Or.inl rfl | exact Or.inr rfl) (hs : swapsWith e (some (.Name x pos')) pos.line X.env = pure false := by rfl)
    (hf : X.fn x = true ∨ X.env.scope.names.lookup x = some .local := by first | exact .inl rfl | exact .inr rfl) : CS X W L O (.Assign [.Name x pos'] e pos) (sOwn i O.length m) (O.set i true) :=
  psI (ps_set hN hi hx he hs hf) fun D σ H h => own_store (O' := O) h
theorem cn_lst {es : List Expr} {m : AM} (h : CA X W O es m) : CN X W O (.List es pos) (eA mkLst m) := by
  refine peI (pe_lst h) fun σ H Q ⟨fr, S, G, R, h⟩ => ⟨fr, S, G, R, h.split fun xs S1 us H1 G1 R1 st1 rs h1 => ?_⟩
  cases e : asDs xs with
  | none => exact (Pst.not_bad (by simpa [mkLst, e] using h1)).elim
  | some ds =>
    have r := rs.data e
    by_cases z : ds.length ≤ sizeLine
    · have h1' : Pst (.of X) W O σ H1 fr G1 (Rs.ok (.d (.list ds)) S1) (fun G' H' v u => ∃ a, u = V.ref a ∧ Tmp (.of X) H a v G' H') Q := by simpa [mkLst, e, z] using h1
      refine ⟨by rw [← r.length]; exact z, fun p hp => ?_⟩
      obtain ⟨B, st⟩ := R1.base.newT (o := .lst us) hp
      obtain ⟨_, nr, nf⟩ := R1.base.new0 hp
      exact h1'.ok _ _ rfl _ _ G1 (R1.step st B) st ⟨p, rfl, st1.there p hp, nf, nr, .inl ⟨ds, us, rfl, upd_same, RpAll.keep (R1.base.keeps st) r⟩⟩
    · exact (Pst.not_bad (by simpa [mkLst, e, z] using h1)).elim
def wipeF (fr : Fr) : List Nat → Fr
  | [] => fr
  | v :: vs => (wipeF fr vs).set v none
def noX {α : Type} : Rs α → Rs α
  | .exc _ _ => .bad
  | r => r
def compF (g : GM) (tt : TMt) (te : EM) (vs : List Nat) (fr : Fr) : List SV → Store → List PyData → Rs (List PyData)
  | [], S, acc => .ok acc S
  | x :: xs, S, acc => match g x (wipeF fr vs) with
    | none => .bad
    | some fr1 => (noX (tt fr1 S)).bind fun b S1 => if b = true then (noX (te fr1 S1)).bind fun y S2 => match y with
        | .d d => if acc.length < sizeLine then compF g tt te vs fr xs S2 (acc ++ [d]) else .bad
        | _ => .bad
      else compF g tt te vs fr xs S1 acc
def eLc (it : AM) (g : GM) (tt : TMt) (te : EM) (vs : List Nat) : EM := fun fr S => (it fr S).bind fun xs S1 => (compF g tt te vs fr xs S1 []).bind fun ds S2 => .ok (.d (.list ds)) S2
def bYes : TMt := fun _ S => .ok true S
theorem wipeF_length (fr : Fr) : ∀ vs : List Nat, (wipeF fr vs).length = fr.length
  | [] => rfl
  | v :: vs => by unfold wipeF; rw [List.length_set, wipeF_length fr vs]
theorem wipe_get (σ : L2.St) : ∀ (vs : List Nat) (i : Nat), i ∉ vs → (wipe σ vs)[i]? = σ[i]?
  | [], _, _ => rfl
  | v :: vs, i, h => by
    rw [List.mem_cons, not_or] at h
    unfold wipe
    rw [List.getElem?_set_ne (Ne.symm h.1)]
    exact wipe_get σ vs i h.2
theorem wipeF_get {fr : Fr} {v : SV} : ∀ {vs : List Nat} {i : Nat}, (wipeF fr vs)[i]? = some (some v) → i ∉ vs ∧ fr[i]? = some (some v)
  | [], _, h => ⟨by simp, h⟩
  | w :: vs, i, h => by
    unfold wipeF at h
    by_cases e : w = i
    · subst e
      by_cases hl : w < (wipeF fr vs).length
      · rw [List.getElem?_set_self hl] at h; cases h
      · rw [List.getElem?_eq_none (by simpa using hl)] at h; cases h
    · rw [List.getElem?_set_ne e] at h
      obtain ⟨h1, h2⟩ := wipeF_get h
      exact ⟨by rw [List.mem_cons, not_or]; exact ⟨Ne.symm e, h1⟩, h2⟩
theorem wipe_len (σ : L2.St) : ∀ vs : List Nat, (wipe σ vs).length = σ.length
  | [] => rfl
  | v :: vs => by unfold wipe; rw [List.length_set, wipe_len σ vs]
theorem Rel.wipe {M : Mo} {σ : L2.St} {H : Hp} {fr : Fr} {S : Store} {G : Gh} (R : Rel M O σ H fr S G) (vs : List Nat) : Rel M O (L2.wipe σ vs) H (wipeF fr vs) S G := by
  refine ⟨R.base, by rw [wipeF_length, wipe_len]; exact R.len, fun i v e => ?_, fun i j v w a oi oj e1 e2 g1 g2 => ?_⟩
  · obtain ⟨n, e'⟩ := wipeF_get e
    obtain ⟨u, h1, h2⟩ := R.slot i v e'
    exact ⟨u, by rw [wipe_get σ vs i n]; exact h1, h2⟩
  · obtain ⟨n1, e1'⟩ := wipeF_get e1
    obtain ⟨n2, e2'⟩ := wipeF_get e2
    rw [wipe_get σ vs i n1] at g1
    rw [wipe_get σ vs j n2] at g2
    exact R.own i j v w a oi oj e1' e2' g1 g2
theorem wipe_ext {σ σ' : L2.St} (hl : σ'.length = σ.length) : ∀ (vs : List Nat), (∀ k, k ∉ vs → σ'[k]? = σ[k]?) → L2.wipe σ' vs = L2.wipe σ vs := fun vs h => by
  refine List.ext_getElem? fun k => ?_
  by_cases hk : k ∈ vs
  · have inn : ∀ (τ : L2.St), k < τ.length → (L2.wipe τ vs)[k]? = some none := fun τ ht => by
      have go : ∀ ws : List Nat, k ∈ ws → (L2.wipe τ ws)[k]? = some none := fun ws => by
        induction ws with
        | nil => intro z; cases z
        | cons w ws ih =>
          intro z
          unfold L2.wipe
          by_cases e : w = k
          · subst e
            rw [List.getElem?_set_self (by rw [wipe_len]; exact ht)]
          · rw [List.getElem?_set_ne e]
            rcases List.mem_cons.mp z with q | q
            · exact absurd q.symm e
            · exact ih q
      exact go vs hk
    by_cases hlt : k < σ.length
    · rw [inn σ hlt, inn σ' (by rw [hl]; exact hlt)]
    · rw [List.getElem?_eq_none (show (L2.wipe σ' vs).length ≤ k by rw [wipe_len]; omega), List.getElem?_eq_none (show (L2.wipe σ vs).length ≤ k by rw [wipe_len]; omega)]
  · rw [wipe_get _ _ _ hk, wipe_get _ _ _ hk, h k hk]
theorem wipe_out {σ σ' : L2.St} {ts vs : List Nat} (o : Out ts (L2.wipe σ vs) σ') (hsub : ∀ k ∈ ts, k ∈ vs) : L2.wipe σ' vs = L2.wipe σ vs := by
  have h1 : L2.wipe σ' vs = L2.wipe (L2.wipe σ vs) vs := wipe_ext o.1 vs fun k hk => o.2 k fun z => hk (hsub k z)
  rw [h1]
  exact wipe_ext (wipe_len σ vs) vs fun k hk => wipe_get σ vs k hk
end
section
variable {M : Mo} {W : WX} {O O1 : Own} {σ : L2.St} {H : Hp} {Q : VK} {it : AM} {g : GM} {tt : TMt} {te : EM} {vs ts : List Nat}
abbrev WF : WX := fun _ _ _ _ => False
theorem Pst.ofX {α β : Type} {fr : Fr} {G : Gh} {r : Rs α} {rel : Gh → Hp → α → β → Prop} {Q : β → Hp → Prop} (g : noX r ≠ .bad) (k : ∀ (z : α) (S' : Store), r = .ok z S' → ∀ (u : β) (H' : Hp) (G' : Gh), Rel M O σ H' fr S' G' → Stp G H G' H' → rel G' H' z u → Q u H') : Pst M WF O σ H fr G r rel Q :=
  ⟨fun e => g (by rw [e]; rfl), k, fun x S' e => (g (by rw [e]; rfl)).elim⟩
theorem lc_read (hsub : ∀ k ∈ ts, k ∈ vs) (h : tN M W O (eLc it g tt te vs) σ H Q) :
    tLc (tIs M W O it) (tG M O O1 ts g) (tT M WF O1 tt) (tM M WF O1 te) vs σ H Q := by
  obtain ⟨fr, S, G, R, h⟩ := h
  refine ⟨fr, S, G, R, h.split fun xs S1 J H1 G1 R1 st1 J1 h1 => fun D hD => ?_⟩
  obtain ⟨B0, st0⟩ := R1.base.newT (o := .lst []) hD
  obtain ⟨_, nr0, nf0⟩ := R1.base.new0 hD
  have hgood : compF g tt te vs fr xs S1 [] ≠ .bad := fun e => h1.good (by rw [e]; rfl)
  refine ⟨fun i n H' => n = xs.length - i ∧ i ≤ xs.length ∧ ∃ S' G' acc, Rel M O σ H' fr S' G' ∧ Stp G1 H1 G' H' ∧ Tmp M H1 D (.d (.list acc)) G' H' ∧ compF g tt te vs fr xs S1 [] = compF g tt te vs fr (xs.drop i) S' acc,
    ⟨xs.length, by omega, by omega, S1, G1, [], R1.step st0 B0, st0, ⟨hD, nf0, nr0, .inl ⟨[], [], rfl, upd_same, .nil⟩⟩, by rw [List.drop_zero]⟩, ?_⟩
  rintro i n H2 ⟨rfl, hle, S2, G2, acc, R2, st2, t2, eq2⟩
  have adv2 : Adv G1 H1 G2 H2 := R1.base.adv st2
  by_cases hlt : i < xs.length
  · right
    have hd : xs.drop i = xs[i] :: xs.drop (i + 1) := List.drop_eq_getElem_cons hlt
    obtain ⟨_, it1⟩ := J1 S2 G2 H2 R2.base st2
    obtain ⟨go, yld⟩ := it1 i xs[i] (List.getElem?_eq_getElem hlt)
    refine ⟨go, fun H' => xs.length - (i + 1) = xs.length - (i + 1) ∧ i + 1 ≤ xs.length ∧ ∃ S' G' acc, Rel M O σ H' fr S' G' ∧ Stp G1 H1 G' H' ∧ Tmp M H1 D (.d (.list acc)) G' H' ∧ compF g tt te vs fr xs S1 [] = compF g tt te vs fr (xs.drop (i + 1)) S' acc,
      fun H' q => ⟨_, by omega, q⟩, fun u H3 y => ?_⟩
    obtain ⟨B3, st3, r3⟩ := yld u H3 y
    have R3 : Rel M O σ H3 fr S2 G2 := R2.step st3 B3
    have t3 := t2.step R2.base st3
    have st13 := st2.trans st3
    rw [hd] at eq2
    cases q : g xs[i] (wipeF fr vs) with
    | none => exact (hgood (by rw [eq2]; simp [compF, q])).elim
    | some fr1 =>
      have e1 : compF g tt te vs fr (xs[i] :: xs.drop (i + 1)) S2 acc = (noX (tt fr1 S2)).bind fun b S3 => if b = true then (noX (te fr1 S3)).bind fun y S4 => match y with
          | .d d => if acc.length < sizeLine then compF g tt te vs fr (xs.drop (i + 1)) S4 (acc ++ [d]) else .bad
          | _ => .bad
        else compF g tt te vs fr (xs.drop (i + 1)) S3 acc := by simp only [compF, q]
      rw [e1] at eq2
      refine ⟨xs[i], wipeF fr vs, S2, G2, fr1, R3.wipe vs, r3, q, fun σ4 R4 o4 => ⟨wipe_out o4 hsub, fr1, S2, G2, R4, ?_⟩⟩
      refine Pst.ofX (fun e => hgood (by rw [eq2, e]; rfl)) fun b S5 eb b' H5 G5 R5 st5 ebb => ?_
      subst ebb
      rw [eb] at eq2
      have eq5 : compF g tt te vs fr xs S1 [] = if b = true then (noX (te fr1 S5)).bind fun y S4 => match y with
          | .d d => if acc.length < sizeLine then compF g tt te vs fr (xs.drop (i + 1)) S4 (acc ++ [d]) else .bad
          | _ => .bad
        else compF g tt te vs fr (xs.drop (i + 1)) S5 acc := eq2
      have RO5 : Rel M O σ H5 fr S5 G5 := R3.step st5 R5.base
      have t5 := t3.step R3.base st5
      have st15 := st13.trans st5
      cases b with
      | false =>
        rw [if_neg Bool.false_ne_true] at eq5 ⊢
        exact ⟨rfl, hlt, S5, G5, acc, RO5, st15, t5, eq5⟩
      | true =>
        rw [if_pos rfl] at eq5 ⊢
        refine ⟨fr1, S5, G5, R5, Pst.ofX (fun e => hgood (by rw [eq5, e]; rfl)) fun y S6 ey w H6 G6 R6 st6 ry => ?_⟩
        rw [ey] at eq5
        have RO6 : Rel M O σ H6 fr S6 G6 := RO5.step st6 R6.base
        have t6 := t5.step RO5.base st6
        have st16 := st15.trans st6
        cases y with
        | obj k => exact (hgood (by rw [eq5]; rfl)).elim
        | scr k => exact (hgood (by rw [eq5]; rfl)).elim
        | d d =>
          have eq6 : compF g tt te vs fr xs S1 [] = if acc.length < sizeLine then compF g tt te vs fr (xs.drop (i + 1)) S6 (acc ++ [d]) else .bad := eq5
          by_cases hz : acc.length < sizeLine
          · rw [if_pos hz] at eq6
            rcases t6.cont with ⟨ds, vs', e, q6, r6⟩ | ⟨_, _, e, _⟩ | ⟨_, _, e, _⟩
            · cases e
              obtain ⟨R7, st7, k7⟩ := R1.tmpWrite (o := .lst (vs' ++ [w])) RO6 st16 t6
              refine ⟨vs', q6, by rw [← r6.length]; exact hz, rfl, hlt, S6, G6, acc ++ [d], R7, st7, ⟨hD, t6.nf, t6.nr, .inl ⟨acc ++ [d], vs' ++ [w], rfl, upd_same, RpAll.keep k7 (r6.append (.cons ry .nil))⟩⟩, eq6⟩
            · cases e
            · cases e
          · rw [if_neg hz] at eq6
            exact (hgood eq6).elim
  · left
    have e : i = xs.length := by omega
    subst e
    rw [List.drop_length] at eq2
    have eq3 : compF g tt te vs fr xs S1 [] = .ok acc S2 := eq2
    refine ⟨(J1 S2 G2 H2 R2.base st2).1, ?_⟩
    rw [eq3] at h1
    exact h1.ok _ S2 rfl _ H2 G2 R2 st2 ⟨D, rfl, ⟨st1.there D hD, t2.nf, t2.nr, t2.cont⟩⟩
end
section
variable {X : Cx} {W : WX} {L O O1 : Own}
theorem cn_lc {elt tg iter : Expr} {ifs : List Expr} {scope : Scope} {own : List (Str × Nat)} {pos : Pos} {it : AM} {g : GM} {tt : TMt} {te : EM} {ts : List Nat} (hc : X.calm = true) (hN : X.N.Nodup) (hi : CIs X W O tg iter it) (ok : BlkOk X.N X.env.scope scope own)
    (hg : ∀ (s : Shared) (H : Hp) (C : Addr) (cl : List (Str × Addr)) (fp : List Addr), CG (X.blk s H scope (compEnvC scope cl C X.env) fp) O tg g O1 ts)
    (ht : ∀ (s : Shared) (H : Hp) (C : Addr) (cl : List (Str × Addr)) (fp : List Addr), PTs (X.blk s H scope (compEnvC scope cl C X.env) fp) ifs (tT (.of X) WF O1 tt))
    (he : ∀ (s : Shared) (H : Hp) (C : Addr) (cl : List (Str × Addr)) (fp : List Addr), CE (X.blk s H scope (compEnvC scope cl C X.env) fp) WF O1 elt te)
    (hsub : (ts.all fun k => (own.map (·.2)).contains k) = true := by rfl) (hs : ∀ x, foldedSetIterable iter X.env x = pure x := by intro _; rfl) :
    CN X W O (.ListComp elt [⟨tg, iter, ifs, 0⟩] scope pos) (eLc it g tt te (own.map (·.2))) :=
  peI (pe_lc (g := tG (.of X) O O1 ts g) (tt := tT (.of X) WF O1 tt) (te := tM (.of X) WF O1 te) hc hN hi ok hg ht he hs) fun σ H Q h => lc_read (fun k hk => by simpa using List.all_eq_true.mp hsub k hk) h
theorem set_read {σ : L2.St} {H : Hp} {i : Nat} {m : EM} {D : Ends} (h : tS (.of X) W L O (O.set i false) (sAsg (gSet i) (fE m)) D σ H) : tM (.of X) W O m σ H fun x H1 => gName i x σ H1 D.nx := by
  obtain ⟨fr, S, G, R, h⟩ := h
  have h' : SPst (.of X) W L (O.set i false) H G ((m fr S).toS fr fun v S1 => ofG (gSet i v fr) S1) D := by
    have e : sAsg (gSet i) (fE m) fr S = (m fr S).toS fr fun v S1 => ofG (gSet i v fr) S1 := by
      unfold sAsg fE
      cases m fr S <;> rfl
    rw [← e]
    exact h
  refine ⟨fr, S, G, R, h'.expr R fun v S1 u H1 G1 R1 st1 a1 r h1 => ?_⟩
  by_cases hl : i < fr.length
  · exact h1.nx (fr.set i (some v)) S1 (by simp [ofG, gSet, hl]) _ H1 G1 (R1.store (by rw [← R1.len]; exact hl) r) Adv.refl
  · exact (h1.good (by simp [ofG, gSet, hl])).elim
theorem cs_lcSet (i : Nat) {y : Str} {py : Pos} {elt tg iter : Expr} {ifs : List Expr} {scope : Scope} {own : List (Str × Nat)} {pos spos : Pos} {it : AM} {g : GM} {tt : TMt} {te : EM} {ts : List Nat} (hc : X.calm = true) (hN : X.N.Nodup)
    (hsw : swapsWith (.ListComp elt [⟨tg, iter, ifs, 0⟩] scope pos) (some (.Name y py)) spos.line X.env = pure true) (hi : CIs X W O tg iter it) (ok : BlkOk X.N X.env.scope scope own)
    (hg : ∀ (s : Shared) (H : Hp) (C : Addr) (cl : List (Str × Addr)) (fp : List Addr), CG (X.blk s H scope (compEnvC scope cl C X.env) fp) O tg g O1 ts)
    (ht : ∀ (s : Shared) (H : Hp) (C : Addr) (cl : List (Str × Addr)) (fp : List Addr), PTs (X.blk s H scope (compEnvC scope cl C X.env) fp) ifs (tT (.of X) WF O1 tt))
    (he : ∀ (s : Shared) (H : Hp) (C : Addr) (cl : List (Str × Addr)) (fp : List Addr), CE (X.blk s H scope (compEnvC scope cl C X.env) fp) WF O1 elt te)
    (hy : X.N[i]? = some y := by rfl) (hyl : X.env.scope.names.lookup y = some .local := by rfl)
    (hsub : (ts.all fun k => (own.map (·.2)).contains k) = true := by rfl) (hs : ∀ x, foldedSetIterable iter X.env x = pure x := by intro _; rfl) :
    CS X W L O (.Assign [.Name y py] (.ListComp elt [⟨tg, iter, ifs, 0⟩] scope pos) spos) (sAsg (gSet i) (fE (eLc it g tt te (own.map (·.2))))) (O.set i false) :=
  psI (ps_setLc (g := tG (.of X) O O1 ts g) (tt := tT (.of X) WF O1 tt) (te := tM (.of X) WF O1 te) hc hN hy hyl hsw hi ok hg ht he hs) fun D σ H h => lc_read (fun k hk => by simpa using List.all_eq_true.mp hsub k hk) (tN_of_tM (set_read h))
theorem cts_nil {X : Cx} {M : Mo} : PTs X [] (tT M WF O bYes) := ⟨fun pins s σ H Q I h => pts_nil.run pins s σ H Q I (by
  obtain ⟨fr, S, G, R, h⟩ := h
  exact h.here R rfl)⟩
theorem cts_one {X : Cx} {c : Expr} {t : TMt} (h : CT X WF O c t) : PTs X [c] (tT (.of X) WF O t) := pts_one h
end
end PD
namespace PD
open PySem PySem.Spec PyProof.Rows L2
section
variable {M : Mo} {W : WX} {O : Own} {σ : L2.St} {H : Hp} {fr : Fr} {S : Store} {G : Gh}
theorem Rel.ownAt (R : Rel M O σ H fr S G) {i : Nat} {ds : List PyData} (ho : O.has i) (h : ownL fr i = some ds) : ∃ a xs, σ[i]? = some (some (.ref a)) ∧ H a = some (.lst xs) ∧ RpAll M G.F H ds xs := by
  obtain ⟨u, h1, h2, _⟩ := R.slot i _ (ownL_some h)
  obtain ⟨a, e, _, _, _, c⟩ := h2 ho
  subst e
  rcases c with ⟨es, xs, e, q, r⟩ | ⟨_, _, e, _⟩ | ⟨_, _, e, _⟩
  · cases e
    exact ⟨a, xs, h1, q, r⟩
  · cases e
  · cases e
theorem Rel.ownSet (R : Rel M O σ H fr S G) {i : Nat} {ds es : List PyData} {a : Addr} {xs ys : List V} (ho : O.has i) (h : ownL fr i = some ds) (hs : σ[i]? = some (some (V.ref a))) (hH : H a = some (.lst xs)) (r : RpAll M G.F H es ys) :
    Rel M O σ (upd H a (.lst ys)) (fr.set i (some (.d (.list es)))) S G ∧ Adv G H G (upd H a (.lst ys)) := by
  have nfz : ¬ G.F a ∧ a ∉ G.rho ∧ G.H0 a = none := by
    obtain ⟨u, h1, h2, _⟩ := R.slot i _ (ownL_some h)
    obtain ⟨b, e, nf, nr, h0, _⟩ := h2 ho
    rw [h1] at hs
    have : u = .ref a := by simpa using hs
    rw [e] at this
    cases this
    exact ⟨nf, nr, h0⟩
  have k := (R.base.write (o := .lst ys) nfz.1 nfz.2.1 nfz.2.2 (.inl ⟨xs, hH⟩)).2
  exact R.ownWrite ho (ownL_some h) hs (.inl ⟨es, ys, rfl, upd_same, RpAll.keep k r⟩)
end
def sApp (i : Nat) (m : EM) : SM := fun fr S => match ownL fr i with
  | some ds => (m fr S).toS fr fun y S1 => (match y with
    | .d d => if ds.length < sizeLine then .nx (fr.set i (some (.d (.list (ds ++ [d]))))) S1 else .bad
    | _ => .bad)
  | none => .bad
def sExt (i : Nat) (m : EM) : SM := fun fr S => match ownL fr i with
  | some ds => (m fr S).toS fr fun y S1 => (match y with
    | .d (.list es) => if ds.length + es.length ≤ sizeLine then .nx (fr.set i (some (.d (.list (ds ++ es))))) S1 else .bad
    | _ => .bad)
  | none => .bad
def sPutI (i : Nat) (m k : EM) : SM := fun fr S => match ownL fr i with
  | some ds => (m fr S).toS fr fun y S1 => (k fr S1).toS fr fun z S2 => (match y, z with
    | .d d, .d (.int n) => (match ixN ds.length n with
      | some j => .nx (fr.set i (some (.d (.list (ds.set j d))))) S2
      | none => .bad)
    | _, _ => .bad)
  | none => .bad
theorem RpAll.dropLast {M : Mo} {F : Addr → Prop} {H : Hp} : ∀ {ds : List PyData} {vs : List V}, RpAll M F H ds vs → RpAll M F H ds.dropLast vs.dropLast
  | _, _, .nil => .nil
  | _, _, .cons r .nil => .nil
  | _, _, .cons r (.cons q t) => .cons r (RpAll.dropLast (.cons q t))
theorem RpAll.set {M : Mo} {F : Addr → Prop} {H : Hp} {d : PyData} {v : V} (r : Rp M F H d v) : ∀ {ds : List PyData} {vs : List V} (j : Nat), RpAll M F H ds vs → RpAll M F H (ds.set j d) (vs.set j v)
  | _, _, _, .nil => .nil
  | _, _, 0, .cons _ t => .cons r t
  | _, _, j + 1, .cons q t => .cons q (RpAll.set r j t)
section
variable {X : Cx} {W : WX} {L O : Own} {st : Stmt} {e : Expr}
theorem has_of {i : Nat} (ho : (O[i]? == some true) = true) : O.has i := by simpa [Own.has] using ho
theorem cs_app (i : Nat) {m : EM} (ho : (O[i]? == some true) = true) (h : PS X st (tDrop (tBM X.K "list" rAppend (tVar i) (tCons (tM (.of X) W O m) tNil)))) : CS X W L O st (sApp i m) O := by
  have ho' := has_of ho
  refine psI h fun D σ H ⟨fr, S, G, R, h⟩ => ?_
  unfold sApp at h
  split at h
  · rename_i ds hds
    obtain ⟨a, xs, hs, hH, r⟩ := R.ownAt ho' hds
    refine ⟨_, hs, .inl ⟨rfl, xs, SqL.of hH⟩, fr, S, G, R, h.expr R fun y S1 u H1 G1 R1 st1 a1 ry h1 => ?_⟩
    split at h1
    · split at h1
      · rename_i hz
        obtain ⟨a', xs', hs', hH', r'⟩ := R1.ownAt ho' hds
        have ea : a' = a := by rw [hs] at hs'; cases hs'; rfl
        subst ea
        obtain ⟨R2, a2⟩ := R1.ownSet (ys := xs' ++ [u]) ho' hds hs' hH' (r'.append (.cons ry .nil))
        exact ⟨a', xs', u, rfl, rfl, hH', by rw [← r'.length]; exact hz, h1.nx _ S1 rfl _ _ G1 R2 a2⟩
      · exact (h1.good rfl).elim
    · exact (h1.good rfl).elim
  · exact (h.good rfl).elim
def sAug (i : Nat) (p : SV → SV → Store → Rs SV) (m : EM) : SM := fun fr S => match fr[i]? with
  | some (some x) => (m fr S).toS fr fun y S1 => (p x y S1).toS fr fun z S2 => .nx (fr.set i (some z)) S2
  | _ => .bad
theorem cs_aug (i : Nat) {r : R2} {p : SV → SV → Store → Rs SV} {m : EM} (ho : (O[i]? == some true) = false) (hp : P2 (.of X) r p) (h : PS X st (tAug i (tM (.of X) W O m) r)) : CS X W L O st (sAug i p m) O := by
  have hno : ¬ O.has i := fun h => by
    have h' : O[i]? = some true := h
    rw [h'] at ho
    cases ho
  refine psI h fun D σ H ⟨fr, S, G, R, h⟩ => ?_
  unfold sAug at h
  split at h
  · rename_i x hx
    obtain ⟨u, hu, _, rx⟩ := R.slot i x hx
    refine ⟨u, hu, fr, S, G, R, h.expr R fun y S1 v H1 G1 R1 st1 a1 ry h1 => hp (W := W) R1 (.val (R.base.rps st1 (rx hno))) (.val ry) (h1.expr R1 fun z S2 w H2 G2 R2 st2 a2 rz h2 => ?_)⟩
    have hl : i < fr.length := (List.getElem?_eq_some_iff.mp hx).1
    have R3 := R2.store (i := i) (by rw [← R2.len]; exact hl) rz
    have hO : List.set O i false = O ∨ i < O.length := by
      by_cases q : i < O.length
      · exact .inr q
      · exact .inl (List.set_eq_of_length_le (by omega))
    have hO2 : List.set O i false = O := by
      rcases hO with q | q
      · exact q
      · refine List.ext_getElem? fun k => ?_
        by_cases hk : i = k
        · subst hk
          rw [List.getElem?_set_self q]
          cases e : O[i]? with
          | none => rw [List.getElem?_eq_none_iff] at e; omega
          | some b =>
            cases b with
            | true => exact absurd e hno
            | false => rfl
        · rw [List.getElem?_set_ne hk]
    rw [hO2] at R3
    exact h2.nx _ S2 rfl _ H2 G2 R3 Adv.refl
  · exact (h.good rfl).elim
def iaddR : R2 := fun x y H Q => (rI0 fun i j => .int (i + j)) x y H Q ∨ ∃ i j, x = .str i ∧ y = .str j ∧ i.length + j.length ≤ sizeLine ∧ Q (.str (i ++ j)) H
theorem ip_addR {X : Cx} : PIp X .Add iaddR := iop_add.or iop_add_str
def iaddV : SV → SV → Store → Rs SV
  | .d (.int i), .d (.int j), S => .ok (.d (.int (i + j))) S
  | .d (.str x), .d (.str y), S => if x.length + y.length ≤ sizeLine then .ok (.d (.str (x ++ y))) S else .bad
  | _, _, _ => .bad
theorem p_iadd {M : Mo} : P2 M iaddR iaddV := by
  intro W O σ H fr S G x y u v Q R rx ry h
  unfold iaddV at h
  split at h
  · obtain rfl := rx.int; obtain rfl := ry.int
    exact .inl ⟨_, _, rfl, rfl, h.here R (.int _)⟩
  · obtain rfl := rx.str; obtain rfl := ry.str
    split at h
    · rename_i hz
      exact .inr ⟨_, _, rfl, rfl, hz, h.here R (.str _)⟩
    · exact h.not_bad.elim
  · exact h.not_bad.elim
theorem ip_subR {X : Cx} : PIp X .Sub (rI0 fun i j => .int (i - j)) := iop_sub
end
end PD
namespace PD
open PySem PySem.Spec PyProof.Rows L2
def Gd (base : Heap) (A : Around) : Prop := A.guards = some [] ∧ (base.get? sysModules).isSome = true
structure FnG (P : Program) (w : World) (K : PySem.W.Frag) (mg : Str → Option Value) (base : Heap) (k : Nat) (f : Addr) (fd : FuncData) (ps : List Str) (sp : Sp) : Prop where
  len : ∀ vs H Q E, sp vs H Q E → vs.length = ps.length
  run : ∀ (A : Around) (outer : List Env) (s : Shared) (H : Hp) (args : Args) (us : List Value) (vs : List V) (Q : VK) (E : XK), Room k A → Gd base A → Env0 P w K mg base A outer s H →
    BindsTo s fd args (ps.zip us) → Vals vs us → sp vs H Q E → codeAny (model P w) A (.call (.ref f) args) (CR (L2.CX P w) outer P w H s Q E) s
section
variable {P : Program} {w : World} {K : PySem.W.Frag} {mg : Str → Option Value} {base : Heap} {k : Nat} {f : Addr} {fd : FuncData} {ps : List Str} {sp : Sp}
theorem FnG.mono {j : Nat} (F : FnG P w K mg base j f fd ps sp) (h : j ≤ k) : FnG P w K mg base k f fd ps sp :=
  ⟨F.len, fun A outer s H args us vs Q E hr => F.run A outer s H args us vs Q E (hr.mono h)⟩
theorem deeper_guards {A : Around} {env : Env} (h : A.guards = some []) : (A.deeper env).guards = some [] := by
  first
    | exact h
    | (unfold Around.deeper; exact h)
    | (simp [Around.deeper, h])
theorem fnG_of {x qual : Str} {st : Stmt} {N : List Str} (F : Fun K x qual st f fd) (Sc : FnScope N ps (defScope st)) (len : ∀ vs H Q E, sp vs H Q E → vs.length = ps.length)
    (hbody : ∀ (cdv : Value) (A : Around) (outer : List Env) (s : Shared) (H : Hp) (vs : List V) (Q : VK) (E : XK), Room k (A.deeper (envOfC qual (defScope st) s.heap.objs.size f cdv)) → Gd base (A.deeper (envOfC qual (defScope st) s.heap.objs.size f cdv)) → sp vs H Q E →
      ∃ t, PSs (cxOf (L2.CX P w) P w K mg base N qual (defScope st) f cdv A outer s H E) (defBody st) t ∧ t { nx := fun _ H' => Q .non H', rt := Q } (start N vs) H) :
    FnG P w K mg base (k + 1) f fd ps sp := by
  obtain ⟨oc, od, kV, doc, pm, an, cdv, ct, osl, rfl, lk, hcd⟩ := F.ex
  constructor
  · exact len
  intro A outer s H args us vs Q E hr hgd e0 hb r hsp
  have hlen : vs.length = ps.length := len vs H Q E hsp
  have old : ∀ (b : Addr) (o : Obj), base.get? b = some o → s.heap.get? b = some o := fun b o e => (e0.bs b o e).1
  have inK : K.In s.heap := e0.mod.kin.keeps old
  have cellsOk : ∀ y ∈ ps.zip us, (defScope st).names.lookup y.1 = some .local ∨
      ((defScope st).names.lookup y.1 = some .cell ∧ ((cellsFrom (s.heap.objs.size + 1) (defScope st).names []).lookup y.1).isSome = true) := by
    rintro ⟨n, v⟩ hy
    cases Sc.par n (List.of_mem_zip hy).1 with
    | inl q => exact Or.inl q
    | inr q => exact Or.inr ⟨q, PySem.W.cellsFrom_some _ _ _ (Or.inl q)⟩
  refine codeAny_call_function hr.depth (inK _ _ lk) rfl Sc.co Sc.gen rfl (PySem.W.codeRec_of inK hcd) ?_
  refine hb _ _ _ _ (wpAny_newFunctionEnv_cells Sc.kind cellsOk ?_)
  intro env he s1 x
  subst he
  refine ⟨(e0.mod.nolimit.keeps old).keeps x.toInCall.keep, codeAny_func ?_⟩
  obtain ⟨t, ht, hq⟩ := hbody cdv A outer s H vs Q E (hr.deeper _) ⟨deeper_guards hgd.1, hgd.2⟩ hsp
  have I0 := inv_start (CX := L2.CX P w) (E := E) (cd := cdv) (mg := mg) Sc hr.hd e0 hlen r x
  refine wpAny_mono (ht.run [] s1 (start N vs) H _ I0 hq) ?_ (fun e s' hs => hs)
  intro fl s' hs
  cases fl with
  | ret u =>
    obtain ⟨v, σ', H', J, rv, q⟩ := hs
    exact ⟨v, H', J.os, J.bare, J.base, J.hok, rv, q⟩
  | next =>
    obtain ⟨σ', H', J, q⟩ := hs
    exact ⟨V.non, H', J.os, J.bare, J.base, J.hok, rfl, q⟩
  | brk => exact hs.elim fun _ z => z.elim fun _ z => z.2.elim
  | cont => exact hs.elim fun _ z => z.elim fun _ z => z.2.elim
end
abbrev FN := List SV → Store → Rs SV
structure Ent (G : Gh) (H : Hp) (G' : Gh) (H' : Hp) : Prop where
  h0 : G'.H0 = H
  f0 : G'.F0 = G.F
  r0 : G'.rho0 = G.rho
def spOf (M : Mo) (n : Nat) (F : FN) : Sp := fun vs H Q E => ∃ S G xs, Base M H S G ∧ RpSs M G H xs vs ∧ xs.length = n ∧ F xs S ≠ .bad ∧
  (∀ z S', F xs S = .ok z S' → ∀ u H' G', Base M H' S' G' → Ent G H G' H' → RpS M G' H' z u → Q u H') ∧
  (∀ x S', F xs S = .exc x S' → ∀ H' G' cls d, Base M H' S' G' → Ent G H G' H' → XRep M G' H' x cls d → E cls d H')
def enter (G : Gh) (H : Hp) : Gh := { G with H0 := H, F0 := G.F, rho0 := G.rho }
def leave (G G' : Gh) : Gh := { G' with H0 := G.H0, F0 := G.F0, rho0 := G.rho0 }
section
variable {M : Mo} {G G' : Gh} {H H' : Hp} {S S' : Store}
theorem Base.enter (B : Base M H S G) : Base M H S (enter G H) :=
  ⟨B.len, B.ob, B.nd, B.frz, fun a o e _ => e, fun a h => h, fun a h => .inl h, ⟨[], by simp [PD.enter]⟩, fun a h => .inl h⟩
theorem Base.leave (B : Base M H S G) (B' : Base M H' S' G') (e : Ent G H G' H') : Base M H' S' (leave G G') ∧ Stp G H (leave G G') H' := by
  have keep : ∀ a o, H a = some o → a ∉ G.rho → H' a = some o := fun a o q n => B'.keep0 a o (by rw [e.h0]; exact q) (by rw [e.r0]; exact n)
  have newF : ∀ a, G'.F a → G.F a ∨ H a = none := fun a f => by
    have q := B'.newF a f
    rw [e.f0, e.h0] at q
    exact q
  have newR : ∀ a, a ∈ G'.rho → a ∈ G.rho ∨ H a = none := fun a m => by
    have q := B'.newR a m
    rw [e.r0, e.h0] at q
    exact q
  have sub : ∀ a, G.F a → G'.F a := fun a f => B'.sub0 a (by rw [e.f0]; exact f)
  have pre : ∃ more, G'.rho = G.rho ++ more := by
    obtain ⟨more, q⟩ := B'.pre
    exact ⟨more, by rw [q, e.r0]⟩
  refine ⟨⟨B'.len, B'.ob, B'.nd, B'.frz, fun a o q n => ?_, fun a f => sub a (B.sub0 a f), fun a f => ?_, ?_, fun a m => ?_⟩, ⟨rfl, rfl, rfl, sub, newF, pre, newR, keep, fun a q => ?_⟩⟩
  · have n' : a ∉ G.rho := fun m => (B.newR a m).elim n fun z => by
      have q' : G.H0 a = some o := q
      rw [z] at q'; cases q'
    exact keep a o (B.keep0 a o q n) n'
  · rcases newF a f with h | h
    · exact B.newF a h
    · exact .inr (B.new0 h).1
  · obtain ⟨m1, e1⟩ := B.pre
    obtain ⟨m2, e2⟩ := pre
    exact ⟨m1 ++ m2, by show G'.rho = G.rho0 ++ (m1 ++ m2); rw [e2, e1, List.append_assoc]⟩
  · rcases newR a m with h | h
    · exact B.newR a h
    · exact .inr (B.new0 h).1
  · cases p : H a with
    | none => rfl
    | some o =>
      by_cases m : a ∈ G.rho
      · obtain ⟨more, ep⟩ := pre
        obtain ⟨x, hx⟩ := B'.rho_get (a := a) (by rw [ep]; exact List.mem_append_left _ m)
        rcases hx.some with ⟨_, z⟩ | ⟨_, _, _, z⟩ <;> (rw [q] at z; cases z)
      · rw [keep a o p m] at q; cases q
end
section
variable {X : Cx} {W : WX} {O : Own} {k : Nat} {f : Addr} {fd : FuncData} {ps : List Str} {sp : Sp} {x : Str} {p pos : Pos} {e : Expr} {es : List Expr}
abbrev Lets (X : Cx) (W : WX) : Prop := Takes X W
theorem run_g {pins : List (Addr × Obj)} {σ : L2.St} {H : Hp} {s : Shared} {Q : VK} {us : List Value} {vs : List V} {ds : List Value} {dvs : List V} (F : FnG X.prog X.w X.K X.mg X.base k f fd ps sp) (hr : Room k X.A) (hgd : Gd X.base X.A)
    (hb : Binds X.K fd ps ds) (hd : Vals dvs ds) (tk : Lets X W) (I : Inv X pins σ H s) (r : Vals vs us) (h : sp (vs ++ dvs) H Q (WE W σ)) : wpAny (model X.prog X.w) X.A (call (.ref f) us) (EP X pins σ Q) X.xe s := by
  have r2 := r.append hd
  have hl : (us ++ ds).length = ps.length := r2.length.symm.trans (F.len _ _ _ _ h)
  refine wpAny_call (codeAny_mono (F.run X.A X.stack s H ⟨us, []⟩ (us ++ ds) (vs ++ dvs) Q (WE W σ) hr hgd I.env0 (hb s us I.kIn hl) r2 h) ?_)
  intro r s' hq
  match r, hq with
  | .error e, hq => exact passAt tk σ pins H s e s' I hq
  | .ok (.ret u), hq => exact I.after hq
  | .ok .next, hq => exact hq.elim
  | .ok .brk, hq => exact hq.elim
  | .ok .cont, hq => exact hq.elim
theorem pe_g {t : TA} {ds : List Value} {dvs : List V} (F : FnG X.prog X.w X.K X.mg X.base k f fd ps sp) (hr : Room k X.A) (hgd : Gd X.base X.A) (hg : Gl X x) (hm : X.mg x = some (.ref f)) (hk : PySem.W.keepIn X.K (.ref f) = true) (hb : Binds X.K fd ps ds) (hd : Vals dvs ds) (tk : Lets X W)
    (ha : PA X (e :: es) t) (hdb : (x == ("__debug__" : Str)) = false := by decide) (he : starEach (e :: es) X.env = (false, eval e X.env) :: starEach es X.env := by rfl) (hpl : (backTo pos (starEach es X.env)).any (·.1) = false := by rfl) :
    PE X (.Call (.Name x p) (e :: es) [] pos) (fun σ H Q => t σ H fun vs H1 => sp (vs ++ dvs) H1 Q (WE W σ)) := by
  constructor
  intro pins s σ H Q I h
  refine wpAny_Call_Name_kw (ld_glob I hg hm (PySem.W.callWith_K (h₀ := X.base) I.ok.mod.kin hk ?_ he hpl) hdb)
  refine thn (ha.run pos pins s σ H _ I h) ?_
  rintro us s1 ⟨vs, H1, I1, r, q⟩
  exact ⟨I1.kIn, run_g F hr hgd hb hd tk I1 r q⟩
theorem sp_of {n : Nat} {F : FN} {σ : L2.St} {H : Hp} {fr : Fr} {S : Store} {G : Gh} {Q : VK} {xs : List SV} {vs : List V} (R : Rel (.of X) O σ H fr S G) (rs : RpSs (.of X) G H xs vs) (hn : xs.length = n) (h : Pst (.of X) W O σ H fr G (F xs S) (RpS (.of X)) Q) :
    spOf (.of X) n F vs H Q (WE W σ) := by
  refine ⟨S, G, xs, R.base, rs, hn, h.good, fun z S' e u H' G' B' en r => ?_, fun x S' e H' G' cls d B' en r => ?_⟩
  · obtain ⟨B2, st⟩ := R.base.leave B' en
    exact h.ok z S' e u H' _ (R.step st B2) st (show RpS (.of X) (leave G G') H' z u from by cases z <;> exact r)
  · obtain ⟨B2, st⟩ := R.base.leave B' en
    exact h.exc x S' e H' _ cls d (R.step st B2) st r
def eCall (n : Nat) (F : FN) (m : AM) : EM := fun fr S => (m fr S).bind fun xs S1 => if xs.length = n then F xs S1 else .bad
theorem ce_call {n : Nat} {F : FN} {m : AM} (Fn : FnG X.prog X.w X.K X.mg X.base k f fd ps (spOf (.of X) n F)) (hr : Room k X.A) (hgd : Gd X.base X.A) (hg : Gl X x) (hm : X.mg x = some (.ref f)) (hk : PySem.W.keepIn X.K (.ref f) = true) (hb : Binds X.K fd ps []) (tk : Lets X W)
    (ha : CA X W O (e :: es) m) (hdb : (x == ("__debug__" : Str)) = false := by decide) (he : starEach (e :: es) X.env = (false, eval e X.env) :: starEach es X.env := by rfl) (hpl : (backTo pos (starEach es X.env)).any (·.1) = false := by rfl) :
    CE X W O (.Call (.Name x p) (e :: es) [] pos) (eCall n F m) :=
  peI (pe_g Fn hr hgd hg hm hk hb .nil tk ha hdb he hpl) fun σ H Q ⟨fr, S, G, R, h⟩ => ⟨fr, S, G, R, h.split fun xs S1 vs H1 G1 R1 st1 rs h1 => by
    rw [List.append_nil]
    by_cases hn : xs.length = n
    · rw [if_pos hn] at h1
      exact sp_of R1 rs hn h1
    · rw [if_neg hn] at h1
      exact h1.not_bad.elim⟩
end
def bodyF (N : Nat) (m : SM) : FN := fun xs S => match m (xs.map some ++ List.replicate (N - xs.length) none) S with
  | .rt v S' => .ok v S'
  | .nx _ S' => .ok (.d .none) S'
  | .exc x _ S' => .exc x S'
  | _ => .bad
section
variable {P : Program} {w : World} {K : PySem.W.Frag} {mg : Str → Option Value} {base : Heap} {k : Nat} {f : Addr} {fd : FuncData} {ps : List Str}
theorem Own.no (n i : Nat) : ¬ Own.has (List.replicate n false) i := fun h => by
  unfold Own.has at h
  rw [List.getElem?_replicate] at h
  split at h <;> cases h
structure Ctx (X : Cx) (W : WX) (k : Nat) : Prop where
  hr : Room k X.A
  hs : Gd X.base X.A
  tk : Lets X W
  ps : PassesOwn (model X.prog X.w) X.A X.env X.xe
theorem def_ok {x qual : Str} {st : Stmt} {N : List Str} {m : SM} {O' : Own} {n : Nat} (F : Fun K x qual st f fd) (Sc : FnScope N ps (defScope st)) (hn : ps.length = n)
    (hbody : ∀ (cdv : Value) (A : Around) (outer : List Env) (s : Shared) (H : Hp) (E : XK), Ctx (cxOf (L2.CX P w) P w K mg base N qual (defScope st) f cdv A outer s H E) (fun cls d _ H => E cls d H) k →
      CSs (cxOf (L2.CX P w) P w K mg base N qual (defScope st) f cdv A outer s H E) (fun cls d _ H => E cls d H) [] (List.replicate N.length false) (defBody st) m O') :
    FnG P w K mg base (k + 1) f fd ps (spOf ⟨w, K, mg⟩ n (bodyF N.length m)) := by
  have rlen : ∀ {M : Mo} {G : Gh} {H : Hp} {xs : List SV} {vs : List V}, RpSs M G H xs vs → xs.length = vs.length := fun r => Paired.length r
  refine fnG_of F Sc (fun vs H Q E ⟨S, G, xs, _, rs, hl, _⟩ => by rw [← rlen rs, hl, hn]) fun cdv A outer s H vs Q E hr hgd ⟨S, G, xs, B, rs, hl, good, ok, exc⟩ => ?_
  refine ⟨_, hbody cdv A outer s H E ⟨hr, hgd, takes_of rfl rfl rfl rfl, passes_of rfl⟩, ?_⟩
  have hlN : ps.length ≤ N.length := by
    have := congrArg List.length Sc.pre
    rw [List.length_take] at this
    omega
  have hvl := rlen rs
  have getM : ∀ (i : Nat) (v : SV), (xs.map some ++ List.replicate (N.length - xs.length) none)[i]? = some (some v) → xs[i]? = some v := fun i v e => by
    by_cases hi : i < xs.length
    · rw [List.getElem?_append_left (by simpa using hi), List.getElem?_map, List.getElem?_eq_getElem hi] at e
      rw [List.getElem?_eq_getElem hi]
      simpa using e
    · rw [List.getElem?_append_right (by simpa using hi), List.getElem?_replicate] at e
      split at e <;> cases e
  have paired_get : ∀ {xs : List SV} {vs : List V} {i : Nat} {v : SV}, RpSs ⟨w, K, mg⟩ G H xs vs → xs[i]? = some v → ∃ u, vs[i]? = some u ∧ RpS ⟨w, K, mg⟩ G H v u := by
    intro xs vs i v r
    induction r generalizing i with
    | nil => intro e; simp at e
    | cons q t ih =>
      intro e
      cases i with
      | zero =>
        simp at e
        subst e
        exact ⟨_, by simp, q⟩
      | succ i =>
        obtain ⟨u, h1, h2⟩ := ih (by simpa using e)
        exact ⟨u, by simpa using h1, h2⟩
  have R : Rel ⟨w, K, mg⟩ (List.replicate N.length false) (L2.start N vs) H (xs.map some ++ List.replicate (N.length - xs.length) none) S (enter G H) := by
    refine ⟨B.enter, ?_, fun i v e => ?_, fun i j v w' a oi => absurd oi (Own.no _ _)⟩
    · unfold L2.start
      simp [hvl]
    · obtain ⟨u, h1, h2⟩ := paired_get rs (getM i v e)
      have hi : i < vs.length := (List.getElem?_eq_some_iff.mp h1).1
      refine ⟨u, ?_, fun oi => absurd oi (Own.no _ _), fun _ => by cases v <;> exact h2⟩
      unfold L2.start
      rw [List.getElem?_append_left (by simpa using hi), List.getElem?_map, h1]
      rfl
  have ent : ∀ {G' : Gh} {H' : Hp}, Adv (enter G H) H G' H' → Ent G H G' H' := fun a => ⟨a.h0, a.f0, a.r0⟩
  refine ⟨_, S, enter G H, R, fun e => good ?_, fun fr' S' e σ' H' G' R' a => ?_, fun fr' S' e => ?_, fun fr' S' e => ?_, fun v S' e u H' G' B' a r => ?_, fun x fr' S' e σ' H' G' cls d R' a r => ?_⟩
  · unfold bodyF; rw [e]
  · exact ok (.d .none) S' (by unfold bodyF; rw [e]) .non H' G' R'.base (ent a) .non
  · exact (good (by unfold bodyF; rw [e])).elim
  · exact (good (by unfold bodyF; rw [e])).elim
  · exact ok v S' (by unfold bodyF; rw [e]) u H' G' B' (ent a) r
  · exact exc x S' (by unfold bodyF; rw [e]) H' G' cls d R'.base (ent a) r
end
end PD
namespace PD
open PySem PySem.Spec PyProof.Rows L2
section
variable {M : Mo} {O : Own} {σ : L2.St} {H H1 : Hp} {fr : Fr} {S : Store} {G G1 : Gh}
theorem Rel.alloc (R1 : Rel M O σ H1 fr S G1) (st : Stp G H G1 H1) {p : Addr} {o : Ob} (hp : H p = none) (h0 : G1.H0 p = none) (nf : ¬ G1.F p) (nr : p ∉ G1.rho) (ob : ObR M G1 H1 o p) (no : ∀ i v, O.has i → fr[i]? = some (some v) → σ[i]? ≠ some (some (V.ref p))) :
    ∃ G2, Rel M O σ H1 fr (S ++ [o]) G2 ∧ Stp G H G2 H1 ∧ RpS M G2 H1 (.obj S.length) (.ref p) := by
  have k : Keeps G1.F G1.F H1 H1 := Keeps.refl
  let G2 : Gh := { G1 with rho := G1.rho ++ [p] }
  have pr : ∃ more, G2.rho = G1.rho ++ more := ⟨[p], rfl⟩
  have obk : ∀ {o a}, ObR M G1 H1 o a → ObR M G2 H1 o a := fun {o a} q => by
    cases o with
    | lst ds =>
      obtain ⟨xs, e, r⟩ := q
      exact ⟨xs, e, RpSs.keep (G' := G2) k pr r⟩
    | ins C fs =>
      obtain ⟨ca, dx, vs, e1, e2, r⟩ := q
      exact ⟨ca, dx, vs, e1, e2, RpF.keep (G' := G2) k pr r⟩
  have B : Base M H1 (S ++ [o]) G2 := by
    refine ⟨by show (S ++ [o]).length = (G1.rho ++ [p]).length; simp [R1.base.len], fun r x a h1 h2 => ?_, ?_, fun a f => ⟨fun m => ?_, (R1.base.frz a f).2⟩, R1.base.keep0, R1.base.sub0, R1.base.newF, ?_, fun a m => ?_⟩
    · by_cases hr : r < S.length
      · rw [List.getElem?_append_left hr] at h1
        have hr' : r < G1.rho.length := by rw [← R1.base.len]; exact hr
        have h2' : (G1.rho ++ [p])[r]? = some a := h2
        rw [List.getElem?_append_left hr'] at h2'
        exact obk (R1.base.ob r x a h1 h2')
      · rw [List.getElem?_append_right (by omega)] at h1
        have h2' : (G1.rho ++ [p])[r]? = some a := h2
        rw [List.getElem?_append_right (by rw [← R1.base.len]; omega)] at h2'
        have e1 : r - S.length = 0 := by
          have := (List.getElem?_eq_some_iff.mp h1).1
          simp at this
          omega
        rw [e1] at h1
        have e2 : r - G1.rho.length = 0 := by rw [← R1.base.len]; exact e1
        rw [e2] at h2'
        simp at h1 h2'
        subst h1 h2'
        exact obk ob
    · show (G1.rho ++ [p]).Nodup
      rw [List.nodup_append]
      exact ⟨R1.base.nd, by simp, fun a ha b hb => by
        simp at hb
        subst hb
        intro e
        exact nr (by rw [← e]; exact ha)⟩
    · rcases List.mem_append.mp (show a ∈ G1.rho ++ [p] from m) with q | q
      · exact (R1.base.frz a f).1 q
      · simp at q
        subst q
        exact nf f
    · obtain ⟨more, e⟩ := R1.base.pre
      exact ⟨more ++ [p], by show G1.rho ++ [p] = G1.rho0 ++ (more ++ [p]); rw [e, List.append_assoc]⟩
    · rcases List.mem_append.mp (show a ∈ G1.rho ++ [p] from m) with q | q
      · exact R1.base.newR a q
      · simp at q
        subst q
        exact .inr h0
  refine ⟨G2, ⟨B, R1.len, fun i v e => ?_, R1.own⟩, ⟨st.h0, st.f0, st.r0, st.sub, st.newF, ?_, fun a m => ?_, st.keep, st.there⟩, ⟨p, ?_, rfl⟩⟩
  · obtain ⟨u, h1, h2, h3⟩ := R1.slot i v e
    refine ⟨u, h1, fun oi => ?_, fun oi => RpS.keep (G' := G2) k pr (h3 oi)⟩
    obtain ⟨a, e1, nfa, nra, h0a, c⟩ := h2 oi
    refine ⟨a, e1, nfa, fun m => ?_, h0a, c⟩
    rcases List.mem_append.mp (show a ∈ G1.rho ++ [p] from m) with q | q
    · exact nra q
    · simp at q
      subst q
      subst e1
      exact no i v oi e h1
  · obtain ⟨more, e⟩ := st.pre
    exact ⟨more ++ [p], by show G1.rho ++ [p] = _; rw [e, List.append_assoc]⟩
  · rcases List.mem_append.mp (show a ∈ G1.rho ++ [p] from m) with q | q
    · exact st.newR a q
    · simp at q
      subst q
      exact .inr hp
  · show (G1.rho ++ [p])[S.length]? = some p
    rw [R1.base.len, List.getElem?_append_right (Nat.le_refl _)]
    simp
theorem Rel.storeSet (R : Rel M O σ H fr S G) {r : Nat} {a : Addr} {o : Ob} {ho : HO} (hr : G.rho[r]? = some a) (ob : Keeps G.F G.F H (upd H a ho) → ObR M G (upd H a ho) o a) : Rel M O σ (upd H a ho) fr (S.set r o) G ∧ Adv G H G (upd H a ho) := by
  have ha : a ∈ G.rho := List.mem_of_getElem? hr
  have nf : ∀ b, G.F b → b ≠ a := fun b f z => (R.base.frz b f).1 (by rw [z]; exact ha)
  have k : Keeps G.F G.F H (upd H a ho) := ⟨fun _ h => h, fun b u f h => by rw [upd_ne (nf b f)]; exact h, fun b xs h => by rw [upd_ne (show b ≠ a from fun z => R.base.no_tup h (by rw [z]; exact ha))]; exact h,
    fun b x u h => by rw [upd_ne (show b ≠ a from fun z => R.base.no_frz h (by rw [z]; exact ha))]; exact h⟩
  have adv : Adv G H G (upd H a ho) := ⟨rfl, rfl, rfl, k, ⟨[], by simp⟩⟩
  have B : Base M (upd H a ho) (S.set r o) G := by
    refine ⟨by rw [List.length_set]; exact R.base.len, fun q x b h1 h2 => ?_, R.base.nd, fun b f => ⟨(R.base.frz b f).1, ?_⟩, fun b u h m => ?_, R.base.sub0, R.base.newF, R.base.pre, R.base.newR⟩
    · have hrl : r < G.rho.length := (List.getElem?_eq_some_iff.mp hr).1
      by_cases e : r = q
      · subst e
        rw [List.getElem?_set_self (by rw [R.base.len]; exact hrl)] at h1
        rw [hr] at h2
        cases h1
        cases h2
        exact ob k
      · rw [List.getElem?_set_ne e] at h1
        have nb : b ≠ a := fun z => by
          subst z
          exact e ((List.getElem?_inj hrl R.base.nd).mp (hr.trans h2.symm))
        have q := R.base.ob q x b h1 h2
        cases x with
        | lst ds =>
          obtain ⟨xs, e, r⟩ := q
          exact ⟨xs, by rw [upd_ne nb]; exact e, RpSs.keep k ⟨[], by simp⟩ r⟩
        | ins C fs =>
          obtain ⟨ca, dx, vs, e1, e2, r⟩ := q
          exact ⟨ca, dx, vs, e1, by rw [upd_ne nb]; exact e2, RpF.keep k ⟨[], by simp⟩ r⟩
    · have q := (R.base.frz b f).2
      unfold FzOk at q ⊢
      rw [upd_ne (nf b f)]
      exact q
    · have nb : b ≠ a := fun z => by
        subst z
        rcases R.base.newR b ha with q | q
        · exact m q
        · rw [q] at h; cases h
      rw [upd_ne nb]
      exact R.base.keep0 b u h m
  refine ⟨⟨B, R.len, fun i v e => ?_, R.own⟩, adv⟩
  obtain ⟨u, h1, h2, h3⟩ := R.slot i v e
  refine ⟨u, h1, fun oi => ?_, fun oi => RpS.keep k ⟨[], by simp⟩ (h3 oi)⟩
  obtain ⟨b, e1, nfb, nrb, h0b, c⟩ := h2 oi
  exact ⟨b, e1, nfb, nrb, h0b, Cont.keep k (fun _ q => by rw [upd_ne (show b ≠ a from fun z => nrb (by rw [z]; exact ha))]; exact q) c⟩
end
def eNew (m : EM) : EM := fun fr S => (m fr S).bind fun v S1 => match v with
  | .d (.list ds) => .ok (.obj S1.length) (S1 ++ [.lst (ds.map .d)])
  | _ => .bad
def mkObj : List SV → Store → Rs SV := fun xs S => if xs.length ≤ sizeLine then .ok (.obj S.length) (S ++ [.lst xs]) else .bad
def sPutO (m mo mi : EM) : SM := fun fr S => (m fr S).toS fr fun v S1 => (mo fr S1).toS fr fun o S2 => (mi fr S2).toS fr fun i S3 => match o, i with
  | .obj r, .d (.int k) => (match S3[r]? with
    | some (.lst xs) => (match ixN xs.length k with
      | some j => .nx fr (S3.set r (.lst (xs.set j v)))
      | none => .bad)
    | _ => .bad)
  | _, _ => .bad
theorem RpSs.set {M : Mo} {G : Gh} {H : Hp} {x : SV} {v : V} (r : RpS M G H x v) : ∀ {xs : List SV} {vs : List V} (j : Nat), RpSs M G H xs vs → RpSs M G H (xs.set j x) (vs.set j v)
  | _, _, _, .nil => .nil
  | _, _, 0, .cons _ t => .cons r t
  | _, _, j + 1, .cons q t => .cons q (RpSs.set r j t)
theorem RpAll.sv {M : Mo} {G : Gh} {H : Hp} : ∀ {ds : List PyData} {vs : List V}, RpAll M G.F H ds vs → RpSs M G H (ds.map .d) vs
  | _, _, .nil => .nil
  | _, _, .cons r t => .cons r (RpAll.sv t)
section
variable {X : Cx} {W : WX} {L O : Own} {pos : Pos} {e : Expr} {st : Stmt}
theorem ce_new {m : EM} (h : CN X W O e m) : CE X W O e (eNew m) := by
  refine peI h fun σ H Q ⟨fr, S, G, R, h⟩ => ⟨fr, S, G, R, fun e => h.good (by unfold eNew; rw [e]; rfl), fun z S' e u H' G' R' st ⟨a, eu, t⟩ => ?_, fun x S' e => h.exc x S' (by unfold eNew; rw [e]; rfl)⟩
  subst eu
  rcases t.cont with ⟨ds, vs, ez, q, r⟩ | ⟨ds, _, ez, _⟩ | ⟨ds, _, ez, _⟩
  · subst ez
    obtain ⟨G2, R2, st2, r2⟩ := R'.alloc (o := .lst (ds.map .d)) st t.new (by rw [st.h0]; exact (R.base.new0 t.new).1) t.nf t.nr ⟨vs, q, r.sv⟩ fun i v o e1 e2 => R.own_there o e1 e2 t.new
    exact h.ok _ _ (by unfold eNew; rw [e]; rfl) _ H' G2 R2 st2 r2
  · subst ez
    exact (h.good (by unfold eNew; rw [e]; rfl)).elim
  · subst ez
    exact (h.good (by unfold eNew; rw [e]; rfl)).elim
theorem ce_obj {es : List Expr} {m : AM} (h : CA X W O es m) : CE X W O (.List es pos) (eA mkObj m) := by
  refine peI (pe_lst h) fun σ H Q ⟨fr, S, G, R, h⟩ => ⟨fr, S, G, R, h.split fun xs S1 us H1 G1 R1 st1 rs h1 => ?_⟩
  unfold mkObj at h1
  split at h1
  · rename_i hz
    have hl : xs.length = us.length := Paired.length rs
    refine ⟨by rw [← hl]; exact hz, fun p hp => ?_⟩
    obtain ⟨B, st⟩ := R1.base.newT (o := .lst us) hp
    obtain ⟨h0, nr, nf⟩ := R1.base.new0 hp
    obtain ⟨G2, R2, st2, r2⟩ := (R1.step st B).alloc (o := .lst xs) st hp h0 nf nr ⟨us, upd_same, R1.base.rpss st rs⟩ fun i v o e1 e2 => R1.own_there o e1 e2 hp
    exact h1.ok _ _ rfl _ _ G2 R2 st2 r2
  · exact h1.not_bad.elim
theorem cs_putO {m mo mi : EM} (h : PS X st (tAsg (tM (.of X) W O m) (gSub (tM (.of X) W O mo) (tM (.of X) W O mi) rSetL))) : CS X W L O st (sPutO m mo mi) O := by
  refine psI h fun D σ H ⟨fr, S, G, R, h⟩ => ⟨fr, S, G, R, h.expr R fun v S1 u H1 G1 R1 st1 a1 rv h1 => ⟨fr, S1, G1, R1, h1.expr R1 fun o S2 ou H2 G2 R2 st2 a2 ro h2 => ⟨fr, S2, G2, R2, h2.expr R2 fun i S3 iu H3 G3 R3 st3 a3 ri h3 => ?_⟩⟩⟩
  split at h3
  · split at h3
    · rename_i hs
      split at h3
      · rename_i hj
        have ro3 := R2.base.rps st3 ro
        have rv3 := R1.base.rps (st2.trans st3) rv
        cases ri
        obtain ⟨a, rfl, ⟨vs, e, rs⟩, hr⟩ := R3.base.store_at hs ro3
        have hl : _ = vs.length := Paired.length rs
        obtain ⟨R4, a4⟩ := R3.storeSet (o := .lst (List.set _ _ v)) (ho := .lst (vs.set _ u)) hr fun k => ⟨vs.set _ u, upd_same, RpSs.keep k ⟨[], by simp⟩ (RpSs.set rv3 _ rs)⟩
        exact ⟨a, vs, _, _, rfl, rfl, e, by rw [← hl]; exact hj, h3.nx _ _ rfl _ _ G3 R4 a4⟩
      · exact (h3.good rfl).elim
    · exact (h3.good rfl).elim
  · exact (h3.good rfl).elim
end
end PD
namespace PD
open PySem PySem.Spec PyProof.Rows L2
set_option maxHeartbeats 1000000 in
theorem meets_enum1 {v : Value} {o : Obj} {H : Heap → Prop} (B : Begins v o H) :
    Meets (Builtin.«enumerate.__new__» ⟨[.type "enumerate", v], []⟩) (fun _ R s => H s.heap ∧
      R (.ok (.ret (.ref (s.heap.push o).objs.size)))
        { s with heap := (s.heap.push o).push { cls := .type "enumerate", data := .fields #[.none, .bool false, .ref s.heap.objs.size, rawInt 0, .none, .none] } }) := by
  refine .of_wp ?_
  intro prog w A R s h
  obtain ⟨hp, g, d, tk, os⟩ := s
  obtain ⟨h1, h⟩ := h
  have subs := sub_enumerate
  have q1 : ∀ {A' : Around} {E : Value → Shared → Prop} {Q : Value → Shared → Prop}, Q (.ref hp.objs.size) ⟨hp.push o, g, d, tk, os⟩ → wpAny (model prog w) A' (pyIter v) Q E ⟨hp, g, d, tk, os⟩ := by
    intro A' E Q q
    exact B.iter prog w _ _ ⟨hp, g, d, tk, os⟩ _ h1 q
  wp_walk using q1
  refine wpAny_stack_any ?_
  intro st
  refine wpAny_pure ?_
  split
  · rename_i c _ _ _ _ _
    cases (c == Value.type "enumerate") <;> (wp_walk using q1; exact ⟨_, rfl, h⟩)
  · wp_walk using q1
    exact ⟨_, rfl, h⟩
section
variable {prog : Program} {w : World} {A : Around} {E : Value → Shared → Prop} {s : Shared}
theorem enum1_begins {v : Value} {o : Obj} {H : Heap → Prop} {Q : Value → Shared → Prop} (B : Begins v o H) (h1 : H s.heap)
    (h : ∀ h', IsEnum h' (s.heap.objs.size + 1) s.heap.objs.size 0 .none → h'.get? s.heap.objs.size = some o → (∀ b o, s.heap.get? b = some o → h'.get? b = some o) → Q (.ref (s.heap.objs.size + 1)) { s with heap := h' }) :
    wpAny (model prog w) A (call (.type "enumerate") [v]) Q E s := by
  have hz : (s.heap.push o).objs.size = s.heap.objs.size + 1 := Heap.size_push ..
  have he := Heap.get?_push_size (s.heap.push o) (o := { cls := .type "enumerate", data := .fields #[.none, .bool false, .ref s.heap.objs.size, rawInt 0, .none, .none] }) rfl
  rw [hz] at he
  refine callType_new F.called_enumerate (by decide) (F.typeCall_enumerate_1 _) (F.newCall_enumerate_1 _) (fun obj => F.args_object_init_2 obj _) F.entry_enumerate_new (meets_enum1 B) ⟨h1, ?_⟩
  show _ ∧ _
  rw [hz]
  exact ⟨⟨_, he, rfl⟩, h _ he (Heap.get?_push_of_some _ (Heap.get?_push_size _ B.free)) fun b o x => Heap.get?_push_of_some _ (Heap.get?_push_of_some _ x)⟩
end
def ItD (R : Nat → Hp → V → Prop) (more stop : Nat → Hp → Prop) : It :=
  ⟨more, fun i H v H' => ∃ T x, v = .ref T ∧ H T = none ∧ H' = upd H T (.tup [.int (i : Nat), x]) ∧ R i H x, stop⟩
theorem turn_D {P : Program} {w : World} {K : PySem.W.Frag} {elts : List Expr} {kk : Nat} {tpos : Pos} {e it : Addr} {R : Nat → Hp → V → Prop} {more stop : Nat → Hp → Prop} {St : Nat → Heap → Prop} (hei : e ≠ it)
    (keep : ∀ i h h', St i h → (∀ o, h.get? it = some o → h'.get? it = some o) → St i h') (obj : ∀ i h, St i h → ∃ o, h.get? it = some o ∧ ∀ v, o.data ≠ .cell v)
    (draws : ∀ (X : Cx), X.prog = P → X.w = w → X.K = K → X.calm = true → ∀ (i : Nat) (pins : List (Addr × Obj)) (s : Shared) (σ : L2.St) (H : Hp), Inv X pins σ H s → St i s.heap → (more i H ∨ stop i H) →
      ∃ (n : Nat) (fp : List Addr) (Pv : Nat → Value → Prop) (Sd : Nat → Heap → Prop), Draws P w X.A.in1 it fp n Pv Sd ∧ e ∉ fp ∧ Sd i s.heap ∧ (∀ h', Sd (i + 1) h' → St (i + 1) h') ∧ (more i H → i < n) ∧ (stop i H → i = n) ∧ ∀ x, Pv i x → ∃ v, RelV v x ∧ R i H v) :
    Turn P w K (.Tuple elts kk tpos) (ItD R more stop) [e, it] e (fun i h => (∃ old, IsEnum h e it ((i : Nat) : Int) old) ∧ St i h) where
  mem := by simp
  obj := fun i h st b hb => by
    obtain ⟨⟨old, he⟩, hs⟩ := st
    rcases List.mem_cons.mp hb with z | z
    · rw [z]
      exact ⟨_, he, fun v q => nomatch q⟩
    · rw [List.mem_singleton.mp z]
      exact obj i h hs
  keep := fun i h h' st k => by
    obtain ⟨⟨old, he⟩, hs⟩ := st
    exact ⟨⟨old, k e (by simp) _ he⟩, keep i h h' hs fun o q => k it (by simp) o q⟩
  item := by
    intro X hP hw hK hc i pins s σ H E I hf st hg
    obtain ⟨n, fp, Pv, Sd, D, hef, sd, next, lt, _, rel⟩ := draws X hP hw hK hc i pins s σ H I st.2 (.inl hg)
    subst hP hw hK
    obtain ⟨⟨old, he⟩, hs⟩ := st
    have hel : e < s.heap.objs.size := Heap.lt_size he
    refine wpAny_pyNext_enum_itemD D he sd (lt hg) hei hef ?_
    intro x h' tk hP ho hs' hT hsz hk
    obtain ⟨v, rv, rr⟩ := rel x hP
    refine ⟨_, rfl, wpAny_letOwnedTupleGo_enum (s := { s with heap := h', toks := tk + 1 }) ho ?_⟩
    intro h'' he' sb
    have hT2 : h''.get? s.heap.objs.size = some { cls := .type "tuple", data := .seq #[.int i tk, x] } := (sb.2 _ (Nat.ne_of_gt hel)).trans hT
    have new : ObjOk X.prog X.w (upd H s.heap.objs.size (.tup [.int (i : Nat), v])) h'' s.heap.objs.size (.tup [.int (i : Nat), v]) := by
      refine ⟨?_, [.int i tk, x], .cons ⟨_, rfl⟩ (.cons rv .nil), ⟨_, hT2, rfl, _, rfl⟩⟩
      show 2 ≤ sizeLine
      decide
    have hit : it < s.heap.objs.size := by
      obtain ⟨o, q, _⟩ := obj i _ hs
      exact Heap.lt_size q
    have I1 : Inv X pins σ (upd H s.heap.objs.size (.tup [.int (i : Nat), v])) { s with heap := h'', toks := tk + 1 } := by
      refine I.turnedNew (ch := [e, it]) (fun b ob hb q => ?_) hf (Nat.le_refl _) new
      have n1 : b ≠ e := fun z => hb (by simp [z])
      have n2 : b ≠ it := fun z => hb (by simp [z])
      exact (sb.2 b n1).trans (hk b ob n1 n2 q)
    refine ⟨.ref s.heap.objs.size, _, I1, rfl, ⟨_, v, rfl, I.hok.fresh (Nat.le_refl _), rfl, rr⟩, ⟨⟨x, ?_⟩, ?_⟩, fun b hb => ?_⟩
    · have e1 : ((i + 1 : Nat) : Int) = (i : Int) + 1 := by omega
      rw [e1]
      exact he'
    · exact keep (i + 1) h' h'' (next h' hs') fun o q => (sb.2 it (Ne.symm hei)).trans q
    · have hb' : b < s.heap.objs.size := by
        rcases List.mem_cons.mp hb with z | z
        · rw [z]; exact hel
        · rw [List.mem_singleton.mp z]; exact hit
      rw [upd_ne (Nat.ne_of_lt hb')]
      exact (hf b hb).1
  done := by
    intro X hP hw hK hc i pins s σ H E I hf st hg
    obtain ⟨n, fp, Pv, Sd, D, hef, sd, next, _, eq, rel⟩ := draws X hP hw hK hc i pins s σ H I st.2 (.inr hg)
    subst hP hw hK
    obtain ⟨⟨old, he⟩, hs⟩ := st
    obtain ⟨f0, f1, f2, f3, f4, f5⟩ := hf it (by simp)
    have en := eq hg
    subst en
    exact wpAny_pyNext_enum_endD D he sd fun h' eb => ⟨rfl, I.turned (t' := s.toks) (fun b o hb q => eb b o hb q) f0 f1 f3 f4 f5⟩
  self := fun A i s Q E st h => by
    obtain ⟨⟨_, he⟩, _⟩ := st
    exact wpAny_pyIter_enum he h
abbrev IteT (K : PySem.W.Frag) (a : Addr) : It := ItD (fun i H x => ∀ xs, SqT K H a xs → xs[i]? = some x) (fun i H => ∃ (xs : List V) (x : V), SqT K H a xs ∧ xs[i]? = some x) (fun i H => ∃ xs : List V, SqT K H a xs ∧ xs.length = i)
abbrev IteS (z : Str) : It := ItD (fun i _ x => ∃ c, z.cps[i]? = some c ∧ x = .str ⟨#[c]⟩) (fun i _ => i < z.cps.size) (fun i _ => i = z.cps.size)
def iEnumA (K : PySem.W.Frag) (ta : TA) : TI := fun σ H R => ta σ H fun vs H1 => (∃ a xs, vs = [.ref a] ∧ SqL K H1 a xs ∧ R (Ite K a) H1) ∨ (∃ a xs, vs = [.ref a] ∧ SqT K H1 a xs ∧ R (IteT K a) H1) ∨ ∃ z, vs = [.str z] ∧ R (IteS z) H1
theorem pi_enumA {X : Cx} {e : Expr} {ta : TA} {p pos tpos : Pos} {elts : List Expr} {kk : Nat} (hg : Gl X "enumerate") (hm : X.mg "enumerate" = none) (ha : PA X [e] ta) (hs : starEach [e] X.env = [(false, eval e X.env)] := by rfl) :
    PI X (.Tuple elts kk tpos) (.Call (.Name "enumerate" p) [e] [] pos) (iEnumA X.K ta) := by
  constructor
  intro pins s σ H R I h
  refine Call_ (ld_blt I hg hm boot_enumerate (PyProof.Rows.callWith_type1 ?_ hs rfl))
  refine thn (ha.run pos pins s σ H _ I h) ?_
  rintro us s1 ⟨vs, H1, I1, r1, q1⟩
  have two : ∀ b, b ∈ [s1.heap.objs.size + 1, s1.heap.objs.size] → FpOk X pins H1 b := fun b hb => by
    have hle : s1.heap.objs.size ≤ b := by
      rcases List.mem_cons.mp hb with z | z
      · omega
      · rw [List.mem_singleton.mp z]; exact Nat.le_refl _
    exact I1.fpOk hle (I1.hok.fresh hle)
  rcases q1 with ⟨a, xs, ex, hq, q⟩ | ⟨a, xs, ex, hq, q⟩ | ⟨z, ex, q⟩
  · subst ex
    obtain ⟨u, rfl, r⟩ := vals1 r1
    cases r
    obtain ⟨its, rv, p', hz⟩ := I1.list hq
    refine call_enumerate_list p'.isList ?_
    intro h' he hit hsz hk
    refine wpAny_pyIter_enum he ?_
    have I2 : Inv X pins σ H1 { s1 with heap := h' } := I1.kept (t' := s1.toks) hk
    exact ⟨s1.heap.objs.size + 1, [s1.heap.objs.size + 1, s1.heap.objs.size], _, _, H1, rfl, I2, turn_enum a (s1.heap.objs.size + 1) s1.heap.objs.size, ⟨⟨.none, he⟩, hit, Nat.succ_ne_self _⟩, two, q⟩
  · subst ex
    obtain ⟨u, rfl, r⟩ := vals1 r1
    cases r
    obtain ⟨its, rv, p', hz⟩ := I1.tuple hq
    refine enum1_begins (begins_tuple a its.toArray) p' ?_
    intro h' he hit hk
    refine wpAny_pyIter_enum he ?_
    have I2 : Inv X pins σ H1 { s1 with heap := h' } := I1.kept (t' := s1.toks) hk
    have hne : a ≠ s1.heap.objs.size := by
      obtain ⟨o, ho, _⟩ := p'
      exact Nat.ne_of_lt (Heap.lt_size ho)
    refine ⟨s1.heap.objs.size + 1, [s1.heap.objs.size + 1, s1.heap.objs.size], _, _, H1, rfl, I2, turn_D (St := fun i h => h.IsTupleIter s1.heap.objs.size a i) (Nat.succ_ne_self _) (fun i h h' st k => st.at fun o q => k o q)
      (fun i h st => by obtain ⟨o, q, _, d⟩ := st; exact ⟨o, q, fun v z => by rw [d] at z; cases z⟩) ?_, ⟨⟨.none, he⟩, ⟨_, hit, rfl, rfl⟩⟩, two, q⟩
    intro X' hP hw hK hc i pins' s' σ' H' I' st hms
    rw [← hP, ← hw]
    rw [← hK] at hms ⊢
    have tup : ∃ xs, SqT X'.K H' a xs := by
      rcases hms with ⟨xs, x, hx, _⟩ | ⟨xs, hx, _⟩ <;> exact ⟨xs, hx⟩
    obtain ⟨ys, hy⟩ := tup
    obtain ⟨its', rv', p2, _⟩ := I'.tuple hy
    have hl := rv'.length
    have hd1 : X'.A.in1.handled = none := I'.ok.hd hc
    refine ⟨its'.toArray.size, [s1.heap.objs.size, a], fun i v => its'.toArray[i]? = some v, fun i h => h.IsTupleIter s1.heap.objs.size a i ∧ h.IsTuple a its'.toArray, Draws.tuple hd1 _ a hne its'.toArray, ?_, ⟨st, p2⟩, fun h' sd => sd.1, ?_, ?_, ?_⟩
    · intro z
      rcases List.mem_cons.mp z with z | z
      · exact Nat.succ_ne_self _ z
      · have z' := List.mem_singleton.mp z
        obtain ⟨o, ho, _⟩ := p'
        have hlt := Heap.lt_size ho
        rw [← z'] at hlt
        exact Nat.not_succ_lt_self hlt
    · rintro ⟨xs, x, hx, hxi⟩
      have e1 := I'.tuple_inj hx hy
      subst e1
      have h1 := (List.getElem?_eq_some_iff.mp hxi).1
      rw [hl] at h1
      rw [List.size_toArray]
      exact h1
    · rintro ⟨xs, hx, hxi⟩
      have e1 := I'.tuple_inj hx hy
      subst e1
      rw [List.size_toArray, ← hl, hxi]
    · intro x hx
      have hx' : its'[i]? = some x := by simpa using hx
      have hi : i < its'.length := (List.getElem?_eq_some_iff.mp hx').1
      obtain ⟨v, hv⟩ : ∃ v, ys[i]? = some v := ⟨ys[i]'(by omega), List.getElem?_eq_getElem (by omega)⟩
      obtain ⟨u, hu, ru⟩ := rv'.get hv
      rw [hx'] at hu
      cases hu
      exact ⟨v, ru, fun xs hxs => by rw [I'.tuple_inj hxs hy]; exact hv⟩
  · subst ex
    obtain ⟨u, rfl, r⟩ := vals1 r1
    obtain ⟨t, rfl⟩ := r
    refine call_enumerate_str ?_
    intro h' he hit hsz hk
    refine wpAny_pyIter_enum he ?_
    have I2 : Inv X pins σ H1 { s1 with heap := h' } := I1.kept (t' := s1.toks) hk
    refine ⟨s1.heap.objs.size + 1, [s1.heap.objs.size + 1, s1.heap.objs.size], _, _, H1, rfl, I2, turn_D (St := fun i h => h.IsStrIter s1.heap.objs.size (strIterType z) z t i) (Nat.succ_ne_self _) (fun i h h' st k => by obtain ⟨o, q, r⟩ := st; exact ⟨o, k o q, r⟩)
      (fun i h st => by obtain ⟨o, q, _, d⟩ := st; exact ⟨o, q, fun v z => by rw [d] at z; cases z⟩) ?_, ⟨⟨.none, he⟩, hit⟩, two, q⟩
    intro X' hP hw hK hc i pins' s' σ' H' I' st hms
    rw [← hP, ← hw]
    have hd1 : X'.A.in1.handled = none := I'.ok.hd hc
    refine ⟨z.cps.size, [s1.heap.objs.size], fun i v => ∃ c u, z.cps[i]? = some c ∧ v = .str ⟨#[c]⟩ u, fun i h => h.IsStrIter s1.heap.objs.size (strIterType z) z t i, Draws.text hd1 _ z t, ?_, st, fun h' sd => sd, fun h => h, fun h => h, ?_⟩
    · intro q
      exact Nat.succ_ne_self _ (List.mem_singleton.mp q)
    · rintro x ⟨c, u, hc', rfl⟩
      exact ⟨.str ⟨#[c]⟩, ⟨u, rfl⟩, c, hc', rfl⟩
def enumL (xs : List PyData) : List SV := (List.range xs.length).zipWith (fun i x => SV.d (.tuple [.int (i : Nat), x])) xs
theorem enumL_get {xs : List PyData} {i : Nat} {x : SV} (h : (enumL xs)[i]? = some x) : ∃ d, xs[i]? = some d ∧ x = .d (.tuple [.int (i : Nat), d]) := by
  unfold enumL at h
  rw [List.getElem?_zipWith] at h
  cases e : xs[i]? with
  | none =>
    rw [e] at h
    split at h
    · rename_i q
      cases q
    · cases h
  | some d =>
    have hi : i < xs.length := (List.getElem?_eq_some_iff.mp e).1
    rw [e, List.getElem?_range hi] at h
    exact ⟨d, rfl, (Option.some.inj h).symm⟩
theorem enumL_length (xs : List PyData) : (enumL xs).length = xs.length := by simp [enumL]
def enumV : List SV → Store → Rs (List SV)
  | [.d (.list xs)], S => .ok (enumL xs) S
  | [.d (.tuple xs)], S => .ok (enumL xs) S
  | [.d (.str z)], S => .ok (enumL (z.cps.toList.map fun c => .str ⟨#[c]⟩)) S
  | _, _ => .bad
section
variable {M : Mo} {G : Gh} {H : Hp}
theorem itR_enumL {p : Addr} {ds : List PyData} {vs : List V} (f : G.F p) (hp : H p = some (.lst vs)) (r : RpAll M G.F H ds vs) : ItR M G H (enumL ds) (Ite M.K p) := fun S' G' H' B a => by
  have s1 : SqL M.K H' p vs := SqL.of (a.keeps.frozen p _ f hp)
  have r1 := a.rpAll r
  refine ⟨⟨vs, s1, by rw [enumL_length, r.length]; exact Nat.le_refl _⟩, fun i x hx => ?_⟩
  obtain ⟨d, hd, rfl⟩ := enumL_get hx
  obtain ⟨v, hv, rv⟩ := r1.get hd
  refine ⟨⟨vs, v, s1, hv⟩, fun u H2 y => ?_⟩
  obtain ⟨T, v', rfl, hT, rfl, k1⟩ := y
  have e1 := k1 vs s1
  rw [hv] at e1
  cases e1
  exact pair_step (G := G) (H := H) B hT (.int _) rv
theorem itR_enumT {p : Addr} {ds : List PyData} {vs : List V} (hp : SqT M.K H p vs) (r : RpAll M G.F H ds vs) : ItR M G H (enumL ds) (IteT M.K p) := fun S' G' H' B a => by
  have s1 : SqT M.K H' p vs := a.sqT hp
  have r1 := a.rpAll r
  refine ⟨⟨vs, s1, by rw [enumL_length, r.length]⟩, fun i x hx => ?_⟩
  obtain ⟨d, hd, rfl⟩ := enumL_get hx
  obtain ⟨v, hv, rv⟩ := r1.get hd
  refine ⟨⟨vs, v, s1, hv⟩, fun u H2 y => ?_⟩
  obtain ⟨T, v', rfl, hT, rfl, k1⟩ := y
  have e1 := k1 vs s1
  rw [hv] at e1
  cases e1
  exact pair_step (G := G) (H := H) B hT (.int _) rv
theorem itR_enumS {z : Str} : ItR M G H (enumL (z.cps.toList.map fun c => .str ⟨#[c]⟩)) (IteS z) := fun S' G' H' B a => by
  refine ⟨by show _ = z.cps.size; rw [enumL_length]; simp, fun i x hx => ?_⟩
  obtain ⟨d, hd, rfl⟩ := enumL_get hx
  rw [List.getElem?_map] at hd
  cases e : z.cps.toList[i]? with
  | none => rw [e] at hd; cases hd
  | some c =>
    rw [e] at hd
    have hd' : PyData.str ⟨#[c]⟩ = d := Option.some.inj hd
    subst hd'
    have hi : i < z.cps.size := by
      have := (List.getElem?_eq_some_iff.mp e).1
      simpa using this
    refine ⟨hi, fun u H2 y => ?_⟩
    obtain ⟨T, v', rfl, hT, rfl, c', hc, rfl⟩ := y
    have : c' = c := by
      rw [Array.getElem?_toList] at e
      rw [e] at hc
      exact (Option.some.inj hc).symm
    subst this
    exact pair_step (G := G) (H := H) B hT (.int _) (.str _)
end
theorem ci_enum {X : Cx} {W : WX} {O : Own} {e : Expr} {m : AM} {p pos tpos : Pos} {elts : List Expr} {kk : Nat} (hg : Gl X "enumerate") (hm : X.mg "enumerate" = none) (ha : CA X W O [e] m) (hs : starEach [e] X.env = [(false, eval e X.env)] := by rfl) :
    CI X W O (.Tuple elts kk tpos) (.Call (.Name "enumerate" p) [e] [] pos) (iA enumV m) :=
  piI (pi_enumA hg hm ha hs) fun σ H R ⟨fr, S, G, R0, h⟩ => ⟨fr, S, G, R0, h.split fun xs S1 us H1 G1 R1 st1 rs h1 => by
    unfold enumV at h1
    split at h1
    · obtain ⟨u, rfl, ru⟩ := rs.one
      cases ru with
      | lst f q r => exact .inl ⟨_, _, rfl, SqL.of q, h1.here R1 (itR_enumL f q r)⟩
    · obtain ⟨u, rfl, ru⟩ := rs.one
      cases ru with
      | tup q r => exact .inr (.inl ⟨_, _, rfl, q, h1.here R1 (itR_enumT q r)⟩)
    · obtain ⟨u, rfl, ru⟩ := rs.one
      cases ru
      exact .inr (.inr ⟨_, rfl, h1.here R1 itR_enumS⟩)
    · exact h1.not_bad.elim⟩
end PD
namespace PD
open PySem PySem.Spec PyProof.Rows L2
def strsOf : List PyData → Option (List Str)
  | [] => some []
  | .str x :: r => (strsOf r).map (x :: ·)
  | _ :: _ => none
theorem strs_rel {M : Mo} {F : Addr → Prop} {H : Hp} : ∀ {ds : List PyData} {vs : List V} {ys : List Str}, RpAll M F H ds vs → strsOf ds = some ys → vs = ys.map V.str
  | [], _, ys, .nil, e => by cases e; rfl
  | .str x :: r, _, ys, .cons q t, e => by
    cases h : strsOf r with
    | none => simp [strsOf, h] at e
    | some zs =>
      have e' : x :: zs = ys := by simpa [strsOf, h] using e
      subst e'
      cases q
      rw [strs_rel t h]
      rfl
  | .none :: _, _, _, _, e => by simp [strsOf] at e
  | .bool _ :: _, _, _, _, e => by simp [strsOf] at e
  | .int _ :: _, _, _, _, e => by simp [strsOf] at e
  | .list _ :: _, _, _, _, e => by simp [strsOf] at e
  | .tuple _ :: _, _, _, _, e => by simp [strsOf] at e
  | .dict _ :: _, _, _, _, e => by simp [strsOf] at e
def joinV : SV → SV → Store → Rs SV
  | .d (.str a), .d (.list ds), S => match strsOf ds with
    | some ys => if (ys.map (·.length)).sum + ys.length * a.length ≤ 16777216 then .ok (.d (.str (Txt.join a ys))) S else .bad
    | none => .bad
  | .d (.str a), .d (.tuple ds), S => match strsOf ds with
    | some ys => if (ys.map (·.length)).sum + ys.length * a.length ≤ 16777216 then .ok (.d (.str (Txt.join a ys))) S else .bad
    | none => .bad
  | _, _, _ => .bad
def eM1 (p : SV → SV → Store → Rs SV) (a b : EM) : EM := fun fr S => (a fr S).bind fun x S1 => match x with
  | .d (.str _) => (b fr S1).bind fun y S2 => p x y S2
  | _ => .bad
section
variable {X : Cx} {W : WX} {O : Own} {pos apos : Pos}
theorem ce_join {o e : Expr} {mo me : EM} (ho : CV X W O o mo) (he : CV X W O e me) (hs : starEach [e] X.env = [(false, eval e X.env)] := by rfl) (hbase : attributeBase o "join" X.env (eval o X.env) = eval o X.env := by rfl) (hline : (apos.endLine == pos.line) = true := by rfl) :
    CE X W O (.Call (.Attribute o "join" apos) [e] [] pos) (eM1 joinV mo me) :=
  peI (pe_join ho he hs hbase hline) fun σ H Q ⟨fr, S, G, R, h⟩ => ⟨fr, S, G, R, h.split fun x S1 u H1 G1 R1 st1 rx h1 => by
    split at h1
    · obtain rfl := rx.str
      refine ⟨⟨_, rfl⟩, fr, S1, G1, R1, h1.split fun y S2 v H2 G2 R2 st2 ry h2 => ?_⟩
      unfold joinV at h2
      split at h2
      · rename_i e1
        cases e1
        split at h2
        · rename_i hy
          split at h2
          · rename_i hz
            obtain ⟨_, _, rfl, q, r⟩ := ry.lst
            obtain rfl := strs_rel r hy
            exact ⟨_, _, _, rfl, rfl, .inl (SqL.of q), hz, h2.here R2 (.str _)⟩
          · exact h2.not_bad.elim
        · exact h2.not_bad.elim
      · rename_i e1
        cases e1
        split at h2
        · rename_i hy
          split at h2
          · rename_i hz
            obtain ⟨_, _, rfl, q, r⟩ := ry.tup
            obtain rfl := strs_rel r hy
            exact ⟨_, _, _, rfl, rfl, .inr q, hz, h2.here R2 (.str _)⟩
          · exact h2.not_bad.elim
        · exact h2.not_bad.elim
      · exact h2.not_bad.elim
    · exact h1.not_bad.elim⟩
def fmtV : SV → Store → Rs SV
  | .d (.str y), S => if y.length ≤ sizeLine then .ok (.d (.str y)) S else .bad
  | .d (.int i), S => if i.natAbs.log2 < 1920 then .ok (.d (.str (toString i))) S else .bad
  | _, _ => .bad
abbrev JM := Str → Fr → Store → Rs Str
def jN : JM := fun acc _ S => .ok acc S
def jC (m : EM) (r : JM) : JM := fun acc fr S => (m fr S).bind fun x S1 => match x with
  | .d (.str y) => if (acc ++ y).length ≤ sizeLine then r (acc ++ y) fr S1 else .bad
  | _ => .bad
def eJ (r : JM) : EM := fun fr S => (r Str.empty fr S).bind fun z S1 => .ok (.d (.str z)) S1
end
end PD
namespace PD
open PySem PySem.Spec PyProof.Rows L2
def onlyH (K : PySem.W.Frag) (a : Addr) (o : Obj) (ns : List Int) : Hp := fun b => if b = a ∧ (K.lookup a).isNone = true then some (.frz o (.lst (ns.map V.int))) else none
section
variable {K : PySem.W.Frag} {a b : Addr} {o : Obj} {ns : List Int}
theorem onlyH_some {u : HO} (h : onlyH K a o ns b = some u) : b = a ∧ K.lookup a = none ∧ u = .frz o (.lst (ns.map V.int)) := by
  unfold onlyH at h
  split at h
  · rename_i q
    exact ⟨q.1, by simpa using q.2, (Option.some.inj h).symm⟩
  · cases h
def G00 (H : Hp) : Gh := ⟨fun _ => False, [], H, fun _ => False, []⟩
theorem base00 {M : Mo} {H : Hp} : Base M H [] (G00 H) :=
  ⟨rfl, fun r o a h => by simp at h, List.nodup_nil, fun _ h => h.elim, fun _ _ h _ => h, fun _ h => h, fun _ h => h.elim, ⟨[], rfl⟩, fun _ h => by cases h⟩
end
theorem law_run {P : Program} {w : World} {K : PySem.W.Frag} {mg mb : Str → Option Value} {k : Nat} {fa a : Addr} {fd : FuncData} {x : Str} {FL : FN} {s1 : Shared} {vs : List Value} {ns : List Int}
    (kin : K.In s1.heap) (gl : s1.heap.Ns mainGlobals mg) (bu : s1.heap.Ns builtinsNs mb) (bb : ∀ x : Str, x ≠ "__name__" → mb x = bootBuiltins x) (sm : ∃ mm, s1.heap.Ns sysModules mm) (nl : s1.heap.NoLimit) (gn : s1.gens = #[])
    (at_ : s1.heap.get? a = some { cls := .type "list", data := .seq vs.toArray }) (are : IntsAre vs ns) (few : ns.length ≤ sizeLine) (room : Room k callerA)
    (Fn : ∀ base : Heap, K.In base → base.Ns mainGlobals mg → FnG P w K mg base k fa fd [x] (spOf ⟨w, K, mg⟩ 1 FL)) (bind : Binds K fd [x] [])
    (yes : ∃ S, FL [.scr ns] [] = .ok (.d (.bool true)) S) :
    codeAny (model P w) callerA (.call (.ref fa) ⟨[.ref a], []⟩) (fun r s2 => r = .ok (.ret (.bool true)) ∧ OldK s1.heap s2.heap ∧ s2.os = s1.os ∧ AllBare s2.gens) s1 := by
  have ri := vals_ints are
  obtain ⟨S, yes⟩ := yes
  let so : Obj := { cls := .type "list", data := .seq vs.toArray }
  let H : Hp := onlyH K a so ns
  have hH : ∀ {b u}, H b = some u → b = a ∧ K.lookup a = none ∧ u = .frz so (.lst (ns.map V.int)) := fun h => onlyH_some h
  have scr : FzL K (G00 H).F H a (ns.map V.int) := by
    cases q : K.lookup a with
    | none => exact .inr (.inl ⟨so, if_pos ⟨rfl, by rw [q]; rfl⟩⟩)
    | some o =>
      have z := kin a o q
      rw [at_] at z
      cases z
      refine .inr (.inr ⟨_, vs.toArray, _, q, rfl, rfl, rfl, ?_, by simpa using ri⟩)
      rw [List.size_toArray, are.length]
      exact few
  have ok : HOk P w H s1.heap := fun b u z => by
    obtain ⟨rfl, _, rfl⟩ := hH z
    refine ⟨at_, by rw [List.length_map]; exact few, vs, _, ri, at_⟩
  have free : ∀ {b : Addr} {o : Obj} {es : Array DictEntry} {ep : Nat}, s1.heap.get? b = some o → o.data = .dict es ep → H b = none := fun {b o es ep} e d => by
    cases q : H b with
    | none => rfl
    | some u =>
      obtain ⟨rfl, _, _⟩ := hH q
      rw [at_] at e
      cases e
      exact absurd (show Data.seq vs.toArray _ = Data.dict es ep from d) (fun z => by cases z)
  have ns_ : ∀ {b : Addr} {m : Str → Option Value}, s1.heap.Ns b m → (hidT s1.heap H).Ns b m := fun {b m} h => by
    obtain ⟨o, es, ep, e, d, r⟩ := h
    exact ⟨o, es, ep, hidT_get e (free e d), d, r⟩
  have kb : K.In (hidT s1.heap H) := fun b o e => by
    refine hidT_get (kin b o e) ?_
    cases q : H b with
    | none => rfl
    | some u =>
      obtain ⟨rfl, n, _⟩ := hH q
      rw [n] at e
      cases e
  obtain ⟨lim, l1, l2⟩ := nl
  have md : Mod K mg (hidT s1.heap H) := ⟨kb, ns_ gl, ⟨mb, ns_ bu, bb⟩, ⟨lim, ns_ l1, l2⟩⟩
  have nil_ : ∀ b : Addr, b ∉ ([] : List Addr) := fun b z => by cases z
  have e0 : Env0 P w K mg (hidT s1.heap H) callerA [] s1 H := ⟨rfl, md, fun b o e => of_hidT e, Nat.le_of_eq (hidT_size _ _), trivial, fun b hb => (nil_ b hb).elim, ok, .of_eq gn⟩
  have sp0 : spOf ⟨w, K, mg⟩ 1 FL [.ref a] H (fun v _ => v = .bl true) fun _ _ _ => False := by
    refine ⟨[], G00 H, [.scr ns], base00, .cons ⟨a, rfl, scr⟩ .nil, rfl, ?_, fun z S2 e u H2 G2 B2 en r => ?_, fun x S2 e => ?_⟩
    · rw [yes]
      exact fun z => by cases z
    · rw [yes] at e
      cases e
      cases r
      rfl
    · rw [yes] at e
      cases e
  refine codeAny_mono ((Fn _ kb (ns_ gl)).run callerA [] s1 H ⟨[.ref a], []⟩ [.ref a] [.ref a] _ _ room ⟨rfl, by obtain ⟨mm, q⟩ := sm; obtain ⟨o, es, ep, e, _⟩ := ns_ q; rw [e]; rfl⟩ e0 (bind s1 [.ref a] kin rfl) (.cons rfl .nil) sp0) fun r s2 h => ?_
  match r, h with
  | .error e, h =>
    obtain ⟨_, _, _, _, _, _, _, _, _, _, _, _, no⟩ := h
    exact no.elim
  | .ok .next, h => exact h.elim
  | .ok .brk, h => exact h.elim
  | .ok .cont, h => exact h.elim
  | .ok (.ret u), h =>
    obtain ⟨v, H2, os, bare, un, ok2, rv, q⟩ := h
    subst q
    cases rv
    refine ⟨rfl, OldK.of_keep fun b o e => ?_, os, bare⟩
    cases q : H b with
    | none => exact un.keep b o e q (nil_ b) (by simp)
    | some u =>
      obtain ⟨rfl, _, rfl⟩ := hH q
      obtain ⟨z1, _⟩ := ok _ _ q
      obtain ⟨z2, _⟩ := ok2 _ _ (un.frzs _ _ _ q)
      rw [e] at z1
      cases z1
      exact z2
theorem walk_to {l : PySem.W.OpenLaw} {n k : Nat} {q : Program} {loose : List Str} {XP : (Str → Option Value) → Heap → Prop} {YP : World → Heap → Prop} {d : DefRec} {K : Params → PySem.W.Frag} {FL : FN} {x : Str}
    (most : l.most = some n) (few : n ≤ sizeLine) (nod : d.params.defaults = []) (ino : importsNone q = true) (room : Room k callerA) (kin : ∀ (w : World) (h : Heap), YP w h → (K w.params).In h)
    (Fn : ∀ (w : World) (mg : Str → Option Value) (fa : Addr) (h : Heap), (K w.params).In h → h.Ns mainGlobals mg → mg d.name = some (.ref fa) →
      ∃ fd : FuncData, Binds (K w.params) fd [x] [] ∧ ∀ base : Heap, (K w.params).In base → base.Ns mainGlobals mg → FnG l.prog w (K w.params) mg base k fa fd [x] (spOf ⟨w, K w.params, mg⟩ 1 FL))
    (yes : ∀ ns : List Int, ns.length ≤ n → ∃ S, FL [.scr ns] [] = .ok (.d (.bool true)) S) : PySem.W.WalkO q loose XP YP l.row.toRowW d [] (fun f vs => PySem.call f vs) :=
  Att.attach_call most nod fun w s0 s1 mg mb fa o pm cd doc a vs ns G Y ho hd hcd hmg hobj hints hlen hg => by
    obtain ⟨fd, hb, hF⟩ := Fn w mg fa s1.heap (kin w _ Y) G.T.g hmg
    exact law_run (kin w _ Y) G.T.g G.T.b G.T.builtins ⟨_, (G.T.seer ino).mods.choose_spec.1⟩ G.T.nolimit hg hobj hints (Nat.le_trans hlen few) room hF hb (yes ns hlen)
end PD
namespace PD
open PySem PySem.Spec PyProof.Rows L2
def ltV : SV → SV → Store → Rs SV
  | .d (.int i), .d (.int j), S => .ok (.d (.bool (decide (i < j)))) S
  | .d (.str i), .d (.str j), S => .ok (.d (.bool (decide (i.cps.toList < j.cps.toList)))) S
  | _, _, _ => .bad
def gtV : SV → SV → Store → Rs SV
  | .d (.int i), .d (.int j), S => .ok (.d (.bool (decide (j < i)))) S
  | .d (.str i), .d (.str j), S => .ok (.d (.bool (decide (j.cps.toList < i.cps.toList)))) S
  | _, _, _ => .bad
def leV : SV → SV → Store → Rs SV
  | .d (.int i), .d (.int j), S => .ok (.d (.bool (decide (i ≤ j)))) S
  | .d (.str i), .d (.str j), S => .ok (.d (.bool (!decide (j.cps.toList < i.cps.toList)))) S
  | _, _, _ => .bad
def geV : SV → SV → Store → Rs SV
  | .d (.int i), .d (.int j), S => .ok (.d (.bool (decide (j ≤ i)))) S
  | .d (.str i), .d (.str j), S => .ok (.d (.bool (!decide (i.cps.toList < j.cps.toList)))) S
  | _, _, _ => .bad
def cmpR (f : Int → Int → Bool) (g : Str → Str → Bool) : R2 := fun x y H Q => (rI0 fun i j => .bl (f i j)) x y H Q ∨ ∃ i j, x = .str i ∧ y = .str j ∧ Q (.bl (g i j)) H
section
variable {X : Cx} {M : Mo}
theorem op_ltR : OpR X (compareOp .Lt) (cmpR (fun i j => decide (i < j)) fun i j => decide (i.cps.toList < j.cps.toList)) := op_lt.or op_lt_str
theorem op_gtR : OpR X (compareOp .Gt) (cmpR (fun i j => decide (j < i)) fun i j => decide (j.cps.toList < i.cps.toList)) := op_gt.or op_gt_str
theorem op_geR : OpR X (compareOp .GtE) (cmpR (fun i j => decide (j ≤ i)) fun i j => !decide (i.cps.toList < j.cps.toList)) := op_ge.or op_ge_str
theorem p_lt : P2 M (cmpR (fun i j => decide (i < j)) fun i j => decide (i.cps.toList < j.cps.toList)) ltV := by
  intro W O σ H fr S G x y u v Q R rx ry h
  unfold ltV at h
  split at h
  · obtain rfl := rx.int; obtain rfl := ry.int
    exact .inl ⟨_, _, rfl, rfl, h.here R (.bl _)⟩
  · obtain rfl := rx.str; obtain rfl := ry.str
    exact .inr ⟨_, _, rfl, rfl, h.here R (.bl _)⟩
  · exact h.not_bad.elim
theorem p_gt : P2 M (cmpR (fun i j => decide (j < i)) fun i j => decide (j.cps.toList < i.cps.toList)) gtV := by
  intro W O σ H fr S G x y u v Q R rx ry h
  unfold gtV at h
  split at h
  · obtain rfl := rx.int; obtain rfl := ry.int
    exact .inl ⟨_, _, rfl, rfl, h.here R (.bl _)⟩
  · obtain rfl := rx.str; obtain rfl := ry.str
    exact .inr ⟨_, _, rfl, rfl, h.here R (.bl _)⟩
  · exact h.not_bad.elim
theorem p_ge : P2 M (cmpR (fun i j => decide (j ≤ i)) fun i j => !decide (i.cps.toList < j.cps.toList)) geV := by
  intro W O σ H fr S G x y u v Q R rx ry h
  unfold geV at h
  split at h
  · obtain rfl := rx.int; obtain rfl := ry.int
    exact .inl ⟨_, _, rfl, rfl, h.here R (.bl _)⟩
  · obtain rfl := rx.str; obtain rfl := ry.str
    exact .inr ⟨_, _, rfl, rfl, h.here R (.bl _)⟩
  · exact h.not_bad.elim
theorem lets_no : Lets X WF := fun _ _ ⟨_, _, _, _, _, _, _, _, _, _, _, _, _, _, _, _, z⟩ => z.elim
end
section
variable {X : Cx} {W : WX} {O : Own} {pos p q : Pos} {e e' : Expr} {m m' : EM}
theorem bt_len : bootBuiltins "len" = some (.builtin "len") := by decide +kernel
theorem bt_abs : bootBuiltins "abs" = some (.builtin "abs") := by decide +kernel
theorem bt_int : bootBuiltins "int" = some (.type "int") := by decide +kernel
theorem bt_tuple : bootBuiltins "tuple" = some (.type "tuple") := by decide +kernel
theorem bt_repr : bootBuiltins "repr" = some (.builtin "repr") := by decide +kernel
def eA1 (p : List SV → Store → Rs SV) (m : EM) : EM := eA p (aC m aN)
theorem ce_len (hm : X.mg "len" = none) (he : CV X W O e m) (hg : Gl X "len" := by rfl) (hs : starEach [e] X.env = (false, eval e X.env) :: starEach [] X.env := by rfl) : CE X W O (.Call (.Name "len" q) [e] [] pos) (eA1 lenV m) :=
  ce_callB call_len p_len hg hm bt_len (cav_cons he cav_nil hs) (he := hs)
theorem ce_abs (hm : X.mg "abs" = none) (he : CV X W O e m) (hg : Gl X "abs" := by rfl) (hs : starEach [e] X.env = (false, eval e X.env) :: starEach [] X.env := by rfl) : CE X W O (.Call (.Name "abs" q) [e] [] pos) (eA1 absI m) :=
  ce_callB call_abs p_abs hg hm bt_abs (cav_cons he cav_nil hs) (he := hs)
theorem ce_toint (hm : X.mg "int" = none) (he : CV X W O e m) (hg : Gl X "int" := by rfl) (hs : starEach [e] X.env = (false, eval e X.env) :: starEach [] X.env := by rfl) : CE X W O (.Call (.Name "int" q) [e] [] pos) (eA1 intV m) :=
  ce_callTy call_intR p_int hg hm bt_int (cav_cons he cav_nil hs) (he := hs)
theorem ce_totup (hm : X.mg "tuple" = none) (he : CV X W O e m) (hg : Gl X "tuple" := by rfl) (hs : starEach [e] X.env = (false, eval e X.env) :: starEach [] X.env := by rfl) : CE X W O (.Call (.Name "tuple" q) [e] [] pos) (eA1 tupleV m) :=
  ce_callTy call_tuple_of p_tuple hg hm bt_tuple (cav_cons he cav_nil hs) (he := hs)
end
end PD
namespace PD
open PySem PySem.Spec PyProof.Rows L2
inductive RpOs (M : Mo) (G : Gh) (H : Hp) : Hp → List Bool → List SV → List V → Prop
  | nil {H0 : Hp} : RpOs M G H H0 [] [] []
  | val {H0 H1 : Hp} {os : List Bool} {x : SV} {u : V} {xs : List SV} {us : List V} : RpS M G H x u → (∀ b, H1 b = none → H0 b = none) → RpOs M G H H1 os xs us → RpOs M G H H0 (false :: os) (x :: xs) (u :: us)
  | own {H0 H1 : Hp} {os : List Bool} {x : SV} {a : Addr} {xs : List SV} {us : List V} : Tmp M H0 a x G H → H1 a ≠ none → (∀ b, H1 b = none → H0 b = none) → RpOs M G H H1 os xs us → RpOs M G H H0 (true :: os) (x :: xs) (.ref a :: us)
def tAO (M : Mo) (W : WX) (O : Own) (os : List Bool) (m : AM) : TA := fun σ H Q => ∃ fr S G, Rel M O σ H fr S G ∧ Pst M W O σ H fr G (m fr S) (fun G' H' xs us => RpOs M G' H' H os xs us) Q
def CAO (X : Cx) (W : WX) (O : Own) (es : List Expr) (os : List Bool) (m : AM) : Prop := PA X es (tAO (.of X) W O os m)
def OldAt (O : Own) (σ : L2.St) (fr : Fr) (H0 : Hp) : Prop := ∀ j w a, O.has j → fr[j]? = some (some w) → σ[j]? = some (some (V.ref a)) → H0 a ≠ none
def setAll (fr : Fr) : List Nat → List SV → Fr
  | i :: is, x :: xs => setAll (fr.set i (some x)) is xs
  | _, _ => fr
def setAllV (σ : L2.St) : List Nat → List V → L2.St
  | i :: is, u :: us => setAllV (σ.set i (some u)) is us
  | _, _ => σ
def setAllO (O : Own) : List Nat → List Bool → Own
  | i :: is, o :: os => setAllO (O.set i o) is os
  | _, _ => O
theorem Rel.storeAll {M : Mo} {H : Hp} {S : Store} {G : Gh} : ∀ {is : List Nat} {os : List Bool} {xs : List SV} {us : List V} {H0 : Hp} {O : Own} {σ : L2.St} {fr : Fr},
    Rel M O σ H fr S G → OldAt O σ fr H0 → RpOs M G H H0 os xs us → is.length = os.length → (∀ i ∈ is, i < σ.length ∧ i < O.length) → (∀ a, H a ≠ none → G.H0 a ≠ none → H0 a ≠ none) → Rel M (setAllO O is os) (setAllV σ is us) H (setAll fr is xs) S G := by
  intro is
  induction is with
  | nil =>
    intro os xs us H0 O σ fr R old rs hl hi hh
    cases os with
    | nil => cases rs; exact R
    | cons o os => simp at hl
  | cons i is ih =>
    intro os xs us H0 O σ fr R old rs hl hi hh
    cases rs with
    | nil => simp at hl
    | @val _ H1 os x u xs us r up t =>
      have hb := hi i List.mem_cons_self
      refine ih (R.store (O := O) hb.1 r) (fun j w a oj e1 e2 => ?_) t (by simpa using hl) (fun k hk => by
        have := hi k (List.mem_cons_of_mem _ hk)
        simpa using this) fun a z1 z2 => ?_
      · by_cases e : i = j
        · subst e
          have oj' : (O.set i false)[i]? = some true := oj
          rw [List.getElem?_set_self hb.2] at oj'
          cases oj'
        · have oj' : (O.set i false)[j]? = some true := oj
          rw [List.getElem?_set_ne e] at oj' e1 e2
          exact fun z => old j w a oj' e1 e2 (up a z)
      · exact fun z => hh a z1 z2 (up a z)
    | @own _ H1 os x a xs us tm ha up t =>
      have hb := hi i List.mem_cons_self
      have n0 : G.H0 a = none := by
        cases q : G.H0 a with
        | none => rfl
        | some o =>
          obtain ⟨o', ho', _⟩ := Cont.there tm.cont
          exact absurd tm.new (hh a (by rw [ho']; simp) (by rw [q]; simp))
      refine ih (R.storeOwn (O := O) hb.1 hb.2 tm.nf tm.nr n0 tm.cont fun j w oj e1 e2 => old j w a oj e1 e2 tm.new) (fun j w b oj e1 e2 => ?_) t (by simpa using hl) (fun k hk => by
        have := hi k (List.mem_cons_of_mem _ hk)
        simpa using this) fun b z1 z2 => ?_
      · by_cases e : i = j
        · subst e
          rw [List.getElem?_set_self hb.1] at e2
          have : a = b := by simpa using e2
          subst this
          exact ha
        · have oj' : (O.set i true)[j]? = some true := oj
          rw [List.getElem?_set_ne e] at oj' e1 e2
          exact fun z => old j w b oj' e1 e2 (up b z)
      · exact fun z => hh b z1 z2 (up b z)
def sPar (is : List Nat) (n : Nat) (m : AM) : SM := fun fr S => (m fr S).toS fr fun xs S1 => if (is.all fun i => decide (i < fr.length) && decide (i < n)) = true then .nx (setAll fr is xs) S1 else .bad
section
variable {X : Cx} {W : WX} {L O : Own} {pos : Pos}
theorem cao_nil : CAO X W O [] [] aN := paI pa_nil fun σ H Q ⟨fr, S, G, R, h⟩ => h.here R .nil
theorem cao_val {e : Expr} {es : List Expr} {os : List Bool} {m : EM} {n : AM} (he : CE X W O e m) (hr : CAO X W O es os n) (hs : starEach (e :: es) X.env = (false, eval e X.env) :: starEach es X.env := by rfl) : CAO X W O (e :: es) (false :: os) (aC m n) :=
  paI (pa_cons he hr hs) fun σ H Q ⟨fr, S, G, R, h⟩ => ⟨fr, S, G, R, h.split fun x S1 u H1 G1 R1 st1 rx h1 => ⟨fr, S1, G1, R1, h1.split fun xs S2 us H2 G2 R2 st2 rs h2 =>
    h2.here R2 (.val (R1.base.rps st2 rx) (fun b z => st1.there b z) rs)⟩⟩
theorem cao_own {e : Expr} {es : List Expr} {os : List Bool} {m : EM} {n : AM} (he : CN X W O e m) (hr : CAO X W O es os n) (hs : starEach (e :: es) X.env = (false, eval e X.env) :: starEach es X.env := by rfl) : CAO X W O (e :: es) (true :: os) (aC m n) :=
  paI (pa_cons he hr hs) fun σ H Q ⟨fr, S, G, R, h⟩ => ⟨fr, S, G, R, h.split fun x S1 u H1 G1 R1 st1 ⟨a, eu, tm⟩ h1 => ⟨fr, S1, G1, R1, h1.split fun xs S2 us H2 G2 R2 st2 rs h2 => by
    subst eu
    obtain ⟨o, ho, _⟩ := Cont.there tm.cont
    exact h2.here R2 (.own (tm.step R1.base st2) (by rw [ho]; simp) (fun b z => st1.there b z) rs)⟩⟩
theorem RpOs.len {M : Mo} {G : Gh} {H H0 : Hp} {os : List Bool} {xs : List SV} {us : List V} (r : RpOs M G H H0 os xs us) : xs.length = us.length ∧ os.length = us.length := by
  induction r with
  | nil => exact ⟨rfl, rfl⟩
  | val _ _ _ ih => simp [ih.1, ih.2]
  | own _ _ _ _ ih => simp [ih.1, ih.2]
theorem par_read {M : Mo} {O' : Own} {is : List Nat} {os : List Bool} {m : AM} {σ : L2.St} {H : Hp} {D : Ends} {fr : Fr} {S : Store} {G : Gh} (hl : is.length = os.length) (R : Rel M O σ H fr S G) (h : SPst M W L (setAllO O is os) H G (sPar is O.length m fr S) D) :
    tAO M W O os m σ H fun us H1 => us.length = is.length ∧ D.nx (setAllV σ is us) H1 := by
  refine ⟨fr, S, G, R, h.expr R fun xs S1 us H1 G1 R1 st1 a1 rs h1 => ?_⟩
  split at h1
  · rename_i hz
    rw [List.all_eq_true] at hz
    have hi : ∀ i ∈ is, i < σ.length ∧ i < O.length := fun i m => by
      have q := hz i m
      rw [Bool.and_eq_true, decide_eq_true_eq, decide_eq_true_eq, R.len] at q
      exact q
    have old : OldAt O σ fr H := fun j w a oj e1 e2 => R.own_there oj e1 e2
    refine ⟨by rw [hl, rs.len.2], h1.nx _ S1 rfl _ H1 G1 (R1.storeAll old rs hl hi fun a _ z => ?_) Adv.refl⟩
    rw [st1.h0] at z
    exact fun q => z (R.base.new0 q).1
  · exact (h1.good rfl).elim
theorem cs_par2 (i j : Nat) {x y : Str} {a b : Expr} {os : List Bool} {m : AM} {px py pt : Pos} {kt k2 : Nat} {pt2 : Pos} (hc : X.calm = true) (hN : X.N.Nodup) (ha : CAO X W O [a, b] os m) (hos : os.length = 2 := by rfl) (hi : X.N[i]? = some x := by rfl) (hj : X.N[j]? = some y := by rfl) (hij : i ≠ j := by decide)
    (hx : X.env.scope.names.lookup x = some .local := by rfl) (hy : X.env.scope.names.lookup y = some .local := by rfl)
    (hw : swappedStores [.Tuple [.Name x px, .Name y py] kt pt] (.Tuple [a, b] k2 pt2) X.env = pure (some [x, y]) := by rfl)
    (hs : swapsWithSole [.Tuple [.Name x px, .Name y py] kt pt] (.Tuple [a, b] k2 pt2) pos.line X.env = pure false := by rfl) :
    CS X W L O (.Assign [.Tuple [.Name x px, .Name y py] kt pt] (.Tuple [a, b] k2 pt2) pos) (sPar [i, j] O.length m) (setAllO O [i, j] os) :=
  psI (ps_par hc hN hi hj hij hx hy ha hw hs) fun D σ H ⟨fr, S, G, R, h⟩ => by
    obtain ⟨fr', S', G', R', g⟩ := par_read (O' := O) (by rw [hos]; rfl) R h
    refine ⟨fr', S', G', R', g.good, fun z S1 e u H1 G1 R1 st r => ?_, g.exc⟩
    obtain ⟨h1, h2⟩ := g.ok z S1 e u H1 G1 R1 st r
    match u, h1 with
    | [v, w], _ => exact ⟨v, w, rfl, h2⟩
theorem cs_par3 (i j l : Nat) {x y z : Str} {a b c : Expr} {os : List Bool} {m : AM} {px py pz pt : Pos} {kt k2 : Nat} {pt2 : Pos} (hc : X.calm = true) (hN : X.N.Nodup) (ha : CAO X W O [a, b, c] os m) (hos : os.length = 3 := by rfl) (hi : X.N[i]? = some x := by rfl) (hj : X.N[j]? = some y := by rfl) (hl : X.N[l]? = some z := by rfl)
    (hij : i ≠ j := by decide) (hil : i ≠ l := by decide) (hjl : j ≠ l := by decide)
    (hx : X.env.scope.names.lookup x = some .local := by rfl) (hy : X.env.scope.names.lookup y = some .local := by rfl) (hz : X.env.scope.names.lookup z = some .local := by rfl)
    (hw : swappedStores [.Tuple [.Name x px, .Name y py, .Name z pz] kt pt] (.Tuple [a, b, c] k2 pt2) X.env = pure (some [x, y, z]) := by rfl)
    (hs : swapsWithSole [.Tuple [.Name x px, .Name y py, .Name z pz] kt pt] (.Tuple [a, b, c] k2 pt2) pos.line X.env = pure false := by rfl) :
    CS X W L O (.Assign [.Tuple [.Name x px, .Name y py, .Name z pz] kt pt] (.Tuple [a, b, c] k2 pt2) pos) (sPar [i, j, l] O.length m) (setAllO O [i, j, l] os) :=
  psI (ps_par3 hc hN hi hj hl hij hil hjl hx hy hz ha hw hs) fun D σ H ⟨fr, S, G, R, h⟩ => by
    obtain ⟨fr', S', G', R', g⟩ := par_read (O' := O) (by rw [hos]; rfl) R h
    refine ⟨fr', S', G', R', g.good, fun z S1 e u H1 G1 R1 st r => ?_, g.exc⟩
    obtain ⟨h1, h2⟩ := g.ok z S1 e u H1 G1 R1 st r
    match u, h1 with
    | [v, w, t], _ => exact ⟨v, w, t, rfl, h2⟩
end
end PD
namespace PD
open PySem PySem.Spec PyProof.Rows L2
theorem bt_isi : bootBuiltins "isinstance" = some (.builtin "isinstance") := by decide +kernel
theorem bt_bool : bootBuiltins "bool" = some (.type "bool") := by decide +kernel
theorem bt_sum : bootBuiltins "sum" = some (.builtin "sum") := by decide +kernel
theorem bt_all : bootBuiltins "all" = some (.builtin "all") := by decide +kernel
def isaR (X : Cx) (T : String) (p : PyData → Bool) : List V → Hp → VK → Prop := fun xs H Q => ∃ F d x, xs = [x, .ty T] ∧ Rp (.of X) F H d x ∧ Q (.bl (p d)) H
def isaV (p : PyData → Bool) : SV → Store → Rs SV
  | .d x, S => .ok (.d (.bool (p x))) S
  | _, _ => .bad
section
variable {X : Cx} {W : WX} {O : Own} {pos p q : Pos} {e : Expr} {es : List Expr} {m : EM}
theorem isa_run {T : String} {p : PyData → Bool} (h : ∀ {A : Around} {E : Value → Shared → Prop} {s : Shared} {v : Value} {d : PyData} {as : List Addr} {Q : Value → Shared → Prop}, Reads s.heap v d as → (∀ tk, s.toks ≤ tk → Q (.bool (p d)) { s with toks := tk }) → wpAny (model X.prog X.w) A (call (.builtin "isinstance") [v, .type T]) Q E s) :
    CallR X (.builtin "isinstance") (isaR X T p) := by
  intro pins s σ H xs us Q I r hq
  obtain ⟨F, d, x, rfl, hd, q⟩ := hq
  cases r with
  | cons r1 t =>
    cases t with
    | cons r2 t =>
      cases t
      cases r2
      obtain ⟨as, rd⟩ := hd.reads I r1
      exact h rd fun tk _ => ⟨.bl _, H, I.kept (t' := tk) fun b o e => e, rfl, q⟩
theorem ce_isi {T : String} {x : Str} {pr : PyData → Bool} (hc : CallR X (.builtin "isinstance") (isaR X T pr)) (hm : X.mg "isinstance" = none) (hx : X.mg x = none) (hv : bootBuiltins x = some (.type T)) (he : CV X W O e m) (hg : Gl X "isinstance" := by rfl) (hgx : Gl X x := by rfl)
    (hn : x ≠ "__name__" := by decide) (hdb : (x == ("__debug__" : Str)) = false := by decide)
    (hs : starEach [e, .Name x q] X.env = (false, eval e X.env) :: starEach [.Name x q] X.env := by rfl) (hs2 : starEach [.Name x q] X.env = (false, eval (.Name x q) X.env) :: starEach [] X.env := by rfl)
    (hpl : (backTo pos (starEach [.Name x q] X.env)).any (·.1) = false := by rfl) : CE X W O (.Call (.Name "isinstance" p) [e, .Name x q] [] pos) (e1 (isaV pr) m) :=
  peI (pe_callB hc hg hm bt_isi (pa_cons he (pa_cons (pe_bltn (v := .ty T) hgx hx hv rfl hn hdb) pa_nil hs2) hs) (by decide) (by decide) hs hpl) fun σ H Q ⟨fr, S, G, R, h⟩ => ⟨fr, S, G, R, h.split fun x S1 u H1 G1 R1 st1 rx h1 => by
    unfold isaV at h1
    split at h1
    · obtain ⟨F, rd⟩ := rx.any
      exact ⟨F, _, u, rfl, rd, h1.here R1 (.bl _)⟩
    · exact h1.not_bad.elim⟩
theorem isa_int : CallR X (.builtin "isinstance") (isaR X "int" PyData.isInt) := isa_run fun r h => PySem.W.isinstance_int_data r h
theorem isa_bool : CallR X (.builtin "isinstance") (isaR X "bool" PyData.isBool) := isa_run fun r h => PySem.W.isinstance_bool_data r h
end
def intsOf : List PyData → Option (List Int)
  | [] => some []
  | .int x :: r => (intsOf r).map (x :: ·)
  | _ :: _ => none
def boolsOf : List PyData → Option (List Bool)
  | [] => some []
  | .bool x :: r => (boolsOf r).map (x :: ·)
  | _ :: _ => none
theorem ints_rel {M : Mo} {F : Addr → Prop} {H : Hp} : ∀ {ds : List PyData} {vs : List V} {ys : List Int}, RpAll M F H ds vs → intsOf ds = some ys → vs = ys.map V.int
  | [], _, ys, .nil, e => by cases e; rfl
  | .int x :: r, _, ys, .cons q t, e => by
    cases h : intsOf r with
    | none => simp [intsOf, h] at e
    | some zs =>
      have e' : x :: zs = ys := by simpa [intsOf, h] using e
      subst e'
      cases q
      rw [ints_rel t h]
      rfl
  | .none :: _, _, _, _, e => by simp [intsOf] at e
  | .bool _ :: _, _, _, _, e => by simp [intsOf] at e
  | .str _ :: _, _, _, _, e => by simp [intsOf] at e
  | .list _ :: _, _, _, _, e => by simp [intsOf] at e
  | .tuple _ :: _, _, _, _, e => by simp [intsOf] at e
  | .dict _ :: _, _, _, _, e => by simp [intsOf] at e
theorem bools_rel {M : Mo} {F : Addr → Prop} {H : Hp} : ∀ {ds : List PyData} {vs : List V} {ys : List Bool}, RpAll M F H ds vs → boolsOf ds = some ys → vs = ys.map V.bl
  | [], _, ys, .nil, e => by cases e; rfl
  | .bool x :: r, _, ys, .cons q t, e => by
    cases h : boolsOf r with
    | none => simp [boolsOf, h] at e
    | some zs =>
      have e' : x :: zs = ys := by simpa [boolsOf, h] using e
      subst e'
      cases q
      rw [bools_rel t h]
      rfl
  | .none :: _, _, _, _, e => by simp [boolsOf] at e
  | .int _ :: _, _, _, _, e => by simp [boolsOf] at e
  | .str _ :: _, _, _, _, e => by simp [boolsOf] at e
  | .list _ :: _, _, _, _, e => by simp [boolsOf] at e
  | .tuple _ :: _, _, _, _, e => by simp [boolsOf] at e
  | .dict _ :: _, _, _, _, e => by simp [boolsOf] at e
def sumV : List SV → Store → Rs SV
  | [.d (.list ds)], S => match intsOf ds with
    | some ns => .ok (.d (.int ns.sum)) S
    | none => .bad
  | _, _ => .bad
theorem p_sum {M : Mo} : PN M (rSum M.K) sumV := by
  intro W O σ H fr S G xs us Q R rs h
  unfold sumV at h
  split at h
  · split at h
    · rename_i hn
      obtain ⟨u, rfl, ru⟩ := rs.one
      obtain ⟨a, vs, rfl, q, r⟩ := ru.lst
      obtain rfl := ints_rel r hn
      exact ⟨_, _, rfl, SqL.of q, h.here R (.int _)⟩
    · exact h.not_bad.elim
  · exact h.not_bad.elim
def allV : List SV → Store → Rs SV
  | [.d (.list ds)], S => match boolsOf ds with
    | some bs => .ok (.d (.bool (bs.all id))) S
    | none => .bad
  | _, _ => .bad
theorem p_all {M : Mo} : PN M (rAll M.K) allV := by
  intro W O σ H fr S G xs us Q R rs h
  unfold allV at h
  split at h
  · split at h
    · rename_i hn
      obtain ⟨u, rfl, ru⟩ := rs.one
      obtain ⟨a, vs, rfl, q, r⟩ := ru.lst
      obtain rfl := bools_rel r hn
      exact ⟨_, _, rfl, SqL.of q, h.here R (.bl _)⟩
    · exact h.not_bad.elim
  · exact h.not_bad.elim
section
variable {X : Cx} {W : WX} {L O : Own} {pos p q : Pos} {e e' : Expr} {m m' : EM}
theorem ce_sum (hc : X.calm = true) (hm : X.mg "sum" = none) (he : CV X W O e m) (hg : Gl X "sum" := by rfl) (hs : starEach [e] X.env = (false, eval e X.env) :: starEach [] X.env := by rfl) : CE X W O (.Call (.Name "sum" q) [e] [] pos) (eA1 sumV m) :=
  ce_callB (cr_sum hc) p_sum hg hm bt_sum (cav_cons he cav_nil hs) (he := hs)
theorem ce_all (hc : X.calm = true) (hm : X.mg "all" = none) (he : CV X W O e m) (hg : Gl X "all" := by rfl) (hs : starEach [e] X.env = (false, eval e X.env) :: starEach [] X.env := by rfl) : CE X W O (.Call (.Name "all" q) [e] [] pos) (eA1 allV m) :=
  ce_callB (cr_all hc) p_all hg hm bt_all (cav_cons he cav_nil hs) (he := hs)
end
end PD
namespace PD
open PySem PySem.Spec PyProof.Rows L2
section
variable {M : Mo} {W : WX} {O : Own} {σ : L2.St} {H H1 : Hp} {fr : Fr} {S1 : Store} {G G1 : Gh} {Q : VK}
theorem tmp_fin (R1 : Rel M O σ H1 fr S1 G1) (st1 : Stp G H G1 H1) {p : Addr} (hp : H1 p = none) {ds : List PyData} {us : List V} (r : RpAll M G1.F H1 ds us)
    (h : Pst M W O σ H1 fr G1 (.ok (.d (.list ds)) S1) (fun G' H' v u => ∃ a, u = V.ref a ∧ Tmp M H a v G' H') Q) : Q (.ref p) (upd H1 p (.lst us)) := by
  obtain ⟨B, st⟩ := R1.base.newT (o := .lst us) hp
  obtain ⟨_, nr, nf⟩ := R1.base.new0 hp
  exact h.ok _ _ rfl _ _ G1 (R1.step st B) st ⟨p, rfl, st1.there p hp, nf, nr, .inl ⟨ds, us, rfl, upd_same, RpAll.keep (R1.base.keeps st) r⟩⟩
end
end PD
namespace PD
open PySem PySem.Spec PyProof.Rows L2
section
variable {X : Cx} {W : WX} {O : Own} {pos : Pos}
theorem cn_dict0 : CN X W O (.Dict [] [] pos) (eC (.dict [])) :=
  peI pe_dnewK fun σ H Q ⟨fr, S, G, R, h⟩ p hp => by
    obtain ⟨B, st⟩ := R.base.newT (o := .dK []) hp
    obtain ⟨_, nr, nf⟩ := R.base.new0 hp
    exact h.ok _ _ rfl _ _ G (R.step st B) st ⟨p, rfl, hp, nf, nr, .inr (.inl ⟨[], [], rfl, upd_same, .nil, .nil⟩)⟩
end
section
variable {X : Cx} {pins : List (Addr × Obj)} {σ : L2.St} {H : Hp} {s : Shared} {F : Addr → Prop}
mutual
theorem Rp.readsS (I : Inv X pins σ H s) (sm : (X.base.get? sysModules).isSome = true) : ∀ {d : PyData} {v : V} {u : Value}, Rp (.of X) F H d v → RelV v u → ∃ as, Reads s.heap u d as ∧ sysModules ∉ as
  | _, _, _, .non, r => by cases r; exact ⟨_, .none, by simp⟩
  | _, _, _, .bl b, r => by cases r; exact ⟨_, .bool b, by simp⟩
  | _, _, _, .int i, r => by obtain ⟨t, rfl⟩ := r; exact ⟨_, .int i t, by simp⟩
  | _, _, _, .str x, r => by obtain ⟨t, rfl⟩ := r; exact ⟨_, .str x t, by simp⟩
  | _, _, _, .lst f h q, r => by
    cases r
    obtain ⟨z, its, n, rv, e⟩ := I.hok _ _ h
    obtain ⟨as, ra, na⟩ := RpAll.readsS I sm q rv
    refine ⟨_, .list e rfl rfl (by simpa using ra), ?_⟩
    rw [List.mem_cons, not_or]
    refine ⟨fun z => ?_, na⟩
    obtain ⟨o, ho⟩ := Option.isSome_iff_exists.mp sm
    have := (I.bs _ _ ho).2
    rw [z, h] at this
    cases this
  | _, _, _, .tup h q, r => by
    cases r
    obtain ⟨its, rv, ⟨o, e, hc, n, hd⟩, z⟩ := I.tuple h
    obtain ⟨as, ra, na⟩ := RpAll.readsS I sm q rv
    exact ⟨_, .tuple e hc hd (by simpa using ra), na⟩
  | _, _, _, .dK f h q1 q2, r => by
    cases r
    obtain ⟨z, y, vs, rv, o, es, ep, e, hx, hd, ko, hp, nd⟩ := I.hok _ _ h
    obtain ⟨v1, v2⟩ := dK_entries (fun _ _ hk => keyIs_rel hk) hp rv
    obtain ⟨as, ra, na⟩ := RpAll.readsS I sm q1 v1
    obtain ⟨bs, rb, nb⟩ := RpAll.readsS I sm q2 v2
    refine ⟨_, .dict e hx.1 hd ra rb, ?_⟩
    rw [List.mem_append, List.mem_cons, not_or, not_or]
    exact ⟨⟨fun z => (beq_eq_false_iff_ne.mp y) z.symm, na⟩, nb⟩
  | _, _, _, .dN f h _ q1 q2, r => by
    cases r
    obtain ⟨⟨o, ds, ep, e, hx, hd, hp, _, ne⟩, _⟩ := I.hok _ _ h
    obtain ⟨v1, v2⟩ := dN_entries hp
    obtain ⟨as, ra, na⟩ := RpAll.readsS I sm q1 v1
    obtain ⟨bs, rb, nb⟩ := RpAll.readsS I sm q2 v2
    refine ⟨_, .dict e hx.1 hd ra rb, ?_⟩
    rw [List.mem_append, List.mem_cons, not_or, not_or]
    exact ⟨⟨ne, na⟩, nb⟩
theorem RpAll.readsS (I : Inv X pins σ H s) (sm : (X.base.get? sysModules).isSome = true) : ∀ {ds : List PyData} {vs : List V} {us : List Value}, RpAll (.of X) F H ds vs → Vals vs us → ∃ as, ReadsAll s.heap us ds as ∧ sysModules ∉ as
  | _, _, _, .nil, .nil => ⟨_, .nil, by simp⟩
  | _, _, _, .cons r t, .cons q w => by
    obtain ⟨as, ra, na⟩ := Rp.readsS I sm r q
    obtain ⟨bs, rb, nb⟩ := RpAll.readsS I sm t w
    exact ⟨_, .cons ra rb, by rw [List.mem_append, not_or]; exact ⟨na, nb⟩⟩
end
end
def reprOkD (d : PyData) : Bool := d.showable && decide (d.depth ≤ 180) && decide (d.shown.length ≤ sizeLine)
def reprVD : List SV → Store → Rs SV
  | [.d d], S => if reprOkD d = true then .ok (.d (.str d.shown)) S else .bad
  | _, _ => .bad
def reprRD (X : Cx) : List V → Hp → VK → Prop := fun xs H Q => ∃ F d x, xs = [x] ∧ Rp (.of X) F H d x ∧ reprOkD d = true ∧ Q (.str d.shown) H
theorem call_reprRD {X : Cx} {k : Nat} (hr : Room k X.A) (hgd : Gd X.base X.A) : CallR X (.builtin "repr") (reprRD X) := by
  intro pins s σ H xs us Q I r h
  obtain ⟨F, d, x, rfl, hd, ok, q⟩ := h
  obtain ⟨u, rfl, ru⟩ := vals1 r
  simp only [reprOkD, Bool.and_eq_true, decide_eq_true_eq] at ok
  obtain ⟨⟨sh, dp⟩, sz⟩ := ok
  obtain ⟨as, rd, nas⟩ : ∃ as, Reads s.heap u d as ∧ (d.hasDict = true → sysModules ∉ as) := by
    obtain ⟨as, rd, na⟩ := hd.readsS I hgd.2 ru
    exact ⟨as, rd, fun _ => na⟩
  have viaRef : ∀ a, u = .ref a → wpAny (model X.prog X.w) X.A (call (.builtin "repr") [u]) (EP X pins σ Q) X.xe s := fun a e => by
    subst e
    exact repr_of_reads' rd sh nas hgd.1 (room190 hr (by omega)) (fun _ _ e => e) (fun h' t tk hk => ⟨.str _, H, I.kept hk, ⟨_, rfl⟩, q⟩) sz
  cases rd with
  | none => exact PySem.P.repr_of_none ⟨.str _, H, I.tok _, ⟨_, rfl⟩, q⟩
  | bool b => exact PySem.P.repr_of_bool ⟨.str _, H, I.tok _, ⟨_, rfl⟩, by cases b <;> exact q⟩
  | int i t => exact PySem.P.repr_of_int (by simpa [PyData.showable] using sh) ⟨.str _, H, I.tok _, ⟨_, rfl⟩, q⟩
  | str x t => exact PySem.P.repr_of_str ⟨.str _, H, I.tok _, ⟨_, rfl⟩, q⟩ sz
  | list _ _ _ _ => exact viaRef _ rfl
  | tuple _ _ _ _ => exact viaRef _ rfl
  | dict _ _ _ _ _ => exact viaRef _ rfl
theorem p_reprD {X : Cx} : PN (.of X) (reprRD X) reprVD := by
  intro W O σ H fr S G xs us Q R rs h
  unfold reprVD at h
  split at h
  · split at h
    · rename_i hz
      obtain ⟨u, rfl, ru⟩ := rs.one
      obtain ⟨_, ru⟩ := ru.any
      exact ⟨_, _, _, rfl, ru, hz, h.here R (.str _)⟩
    · exact h.not_bad.elim
  · exact h.not_bad.elim
theorem ce_reprD {X : Cx} {W : WX} {O : Own} {pos q : Pos} {e : Expr} {m : EM} {k : Nat} (hr : Room k X.A) (hgd : Gd X.base X.A) (hm : X.mg "repr" = none) (he : CV X W O e m) (hg : Gl X "repr" := by rfl) (hs : starEach [e] X.env = (false, eval e X.env) :: starEach [] X.env := by rfl) : CE X W O (.Call (.Name "repr" q) [e] [] pos) (eA1 reprVD m) :=
  ce_callB (call_reprRD hr hgd) p_reprD hg hm bt_repr (cav_cons he cav_nil hs) (he := hs)
end PD
namespace PD
open PySem PySem.Spec PyProof.Rows L2
def KeyOf (h : Heap) (k : NestedKey) (a : Addr) : Prop := NestedIs h k (.ref a) ∧ k.depth ≤ 8
theorem KeyOf.one {h : Heap} {k k' : NestedKey} {a : Addr} (x : KeyOf h k a) (y : KeyOf h k' a) : k = k' := NestedIs.inj _ _ _ x.1 y.1
theorem KeyOf.on {h h' : Heap} {k : NestedKey} {a : Addr} (x : KeyOf h k a) (q : ∀ b o, h.get? b = some o → h'.get? b = some o) : KeyOf h' k a := ⟨NestedIs.at (fun b o _ _ e _ => q b o e) _ _ x.1, x.2⟩
abbrev KRow := Addr × NestedKey
def rowsK (w : World) (L : List KRow) : List (Int × Value) := L.map fun p => (p.2.hash w, Value.ref p.1)
def hashesK (w : World) (L : List KRow) : List Int := L.map fun p => p.2.hash w
structure SetK8 (w : World) (h : Heap) (a : Addr) (L : List KRow) (es : Array (Int × Value)) (ep : Nat) (t : SetTable) : Prop where
  ob : ∃ o, h.get? a = some o ∧ o.ExactSet ∧ o.data = .set es ep t
  rows : es.toList = rowsK w L
  tab : TabOk t (hashesK w L)
  nd : (L.map (·.2)).Nodup
  key : ∀ p ∈ L, KeyOf h p.2 p.1
  led : w.params.followText "set-order" = true ∨ t.led = true
  room : L.length * 5 < t.mask * 3
  few : L.length < 64
section
variable {P : Program} {w : World} {A : Around} {E : Value → Shared → Prop} {s : Shared} {a : Addr} {L : List KRow} {es : Array (Int × Value)} {ep : Nat} {t : SetTable}
theorem rowsK_len {es : Array (Int × Value)} {L : List KRow} (h : es.toList = rowsK w L) : es.size = L.length := by
  have := congrArg List.length h
  simpa [rowsK] using this
theorem SetK8.tabSize (R : SetK8 w s.heap a L es ep t) : t.place.size = L.length := by
  have := R.tab.sz
  simpa [hashesK] using this
theorem SetK8.fit (R : SetK8 w s.heap a L es ep t) : t.fits es.size = true := by
  have h1 := R.tabSize
  have h2 := rowsK_len R.rows
  have h3 := R.room
  simp only [SetTable.fits, SetTable.fill, R.tab.dm, Bool.and_eq_true, beq_iff_eq, decide_eq_true_eq]
  exact ⟨by omega, by
    show t.place.size + 0 ≤ t.mask
    omega⟩
theorem SetK8.row (R : SetK8 w s.heap a L es ep t) {i : Nat} {p : KRow} (h : L[i]? = some p) : es[i]? = some (p.2.hash w, Value.ref p.1) := by
  have : es.toList[i]? = some (p.2.hash w, Value.ref p.1) := by
    rw [R.rows, rowsK, List.getElem?_map, h]
    rfl
  simpa using this
end
structure Has (ks : List KRow) (i : Nat) (L : List KRow) : Prop where
  sub : ∀ p ∈ L, p ∈ ks.take i
  all : ∀ p ∈ ks.take i, p.2 ∈ L.map (·.2)
  len : L.length ≤ i
theorem Has.next {ks L L' : List KRow} {i : Nat} {x : KRow} (g : Has ks i L) (h : ks[i]? = some x) (old : x.2 ∈ L.map (·.2) → L' = L) (new : x.2 ∉ L.map (·.2) → L'.Perm (x :: L)) : Has ks (i + 1) L' := by
  have tk : ks.take (i + 1) = ks.take i ++ [x] := by rw [List.take_succ, h]; rfl
  by_cases hm : x.2 ∈ L.map (·.2)
  · rw [old hm]
    refine ⟨fun p hp => by rw [tk]; exact List.mem_append_left _ (g.sub p hp), fun p hp => ?_, Nat.le_succ_of_le g.len⟩
    rw [tk] at hp
    rcases List.mem_append.mp hp with z | z
    · exact g.all p z
    · rw [List.mem_singleton.mp z]
      exact hm
  · have pm := new hm
    refine ⟨fun p hp => ?_, fun p hp => ?_, by rw [pm.length_eq, List.length_cons]; exact Nat.succ_le_succ g.len⟩
    · rw [tk]
      rcases List.mem_cons.mp (pm.mem_iff.mp hp) with e | z
      · rw [e]
        simp
      · exact List.mem_append_left _ (g.sub p z)
    · rw [(pm.map (·.2)).mem_iff, List.map_cons]
      rw [tk] at hp
      rcases List.mem_append.mp hp with z | z
      · exact List.mem_cons_of_mem _ (g.all p z)
      · rw [List.mem_singleton.mp z]
        exact List.mem_cons_self
theorem SetK8.on {w : World} {h h' : Heap} {a : Addr} {L : List KRow} {es : Array (Int × Value)} {ep : Nat} {t : SetTable} (R : SetK8 w h a L es ep t) (ha : ∀ o, h.get? a = some o → h'.get? a = some o) (hk : ∀ p ∈ L, KeyOf h' p.2 p.1) : SetK8 w h' a L es ep t := by
  obtain ⟨o, ho, r⟩ := R.ob
  exact { R with ob := ⟨o, ha o ho, r⟩, key := hk }
abbrev set0 (w : World) : Obj := { cls := .type "set", dict := none, data := .set #[] 0 (.fresh 0 0 (!w.params.followText "set-order")) }
theorem SetK8.new {w : World} {h : Heap} {a : Addr} (ho : h.get? a = some (set0 w)) : SetK8 w h a [] #[] 0 (.fresh 0 0 (!w.params.followText "set-order")) where
  ob := ⟨_, ho, ⟨rfl, rfl, rfl⟩, rfl⟩
  rows := rfl
  tab := ⟨.nil, rfl, rfl, .inl rfl, fun _ h => (by cases h), fun _ _ _ h => (by simp [hashesK] at h)⟩
  nd := .nil
  key := fun _ h => (by cases h)
  led := by
    show _ ∨ (!w.params.followText "set-order") = true
    cases w.params.followText "set-order" <;> simp
  room := by
    show 0 * 5 < 7 * 3
    decide
  few := by
    show 0 < 64
    decide
theorem each_map_self {α β : Type} {f : β → α} : ∀ bs : List β, PySem.W.EachIs (fun v b => v = f b) (bs.map f) bs
  | [] => .nil
  | b :: bs => .cons rfl (each_map_self bs)
theorem each_is_map {α β : Type} {f : β → α} : ∀ {vs : List α} {bs : List β}, PySem.W.EachIs (fun v b => v = f b) vs bs → vs = bs.map f
  | _, _, .nil => rfl
  | _, _, .cons e t => by rw [e, each_is_map t, List.map_cons]
end PD
namespace PD
open PySem PySem.Spec PyProof.Rows L2
theorem toKeys_cons {x : PyData} {xs : List PyData} {ks : List NestedKey} (h : toKeys (x :: xs) = some ks) : ∃ k r, ks = k :: r ∧ toKey x = some k ∧ toKeys xs = some r := by
  simp only [toKeys] at h
  cases e1 : toKey x with
  | none => rw [e1] at h; cases h
  | some k =>
    rw [e1] at h
    cases e2 : toKeys xs with
    | none => rw [e2] at h; cases h
    | some r =>
      rw [e2] at h
      exact ⟨k, r, (Option.some.inj h).symm, rfl, rfl⟩
theorem toKey_tup {xs : List PyData} {k : NestedKey} (h : toKey (.tuple xs) = some k) : ∃ ks, k = .tup ks ∧ toKeys xs = some ks := by
  simp only [toKey, Option.map_eq_some_iff] at h
  obtain ⟨ks, e, rfl⟩ := h
  exact ⟨ks, rfl, e⟩
mutual
theorem eqv_key : ∀ {x y : PyData} {a b : NestedKey}, toKey x = some a → toKey y = some b → (PyData.eqv x y = true ↔ x = y)
  | .none, y, _, _, _, h => by cases y <;> simp [toKey, PyData.eqv] at h ⊢
  | .int i, y, _, _, _, h => by cases y <;> simp [toKey, PyData.eqv] at h ⊢
  | .str i, y, _, _, _, h => by cases y <;> simp [toKey, PyData.eqv] at h ⊢
  | .tuple xs, y, _, _, h1, h => by
    cases y with
    | tuple ys =>
      obtain ⟨_, _, e1⟩ := toKey_tup h1
      obtain ⟨_, _, e2⟩ := toKey_tup h
      rw [PyData.eqv, eqv_keys e1 e2]
      simp
    | _ => simp [toKey, PyData.eqv] at h ⊢
  | .bool _, _, _, _, h, _ => by cases h
  | .list _, _, _, _, h, _ => by cases h
  | .dict _, _, _, _, h, _ => by cases h
theorem eqv_keys : ∀ {xs ys : List PyData} {a b : List NestedKey}, toKeys xs = some a → toKeys ys = some b → (PyData.eqvAll xs ys = true ↔ xs = ys)
  | [], [], _, _, _, _ => by simp [PyData.eqvAll]
  | [], _ :: _, _, _, _, _ => by simp [PyData.eqvAll]
  | _ :: _, [], _, _, _, _ => by simp [PyData.eqvAll]
  | x :: xs, y :: ys, _, _, h1, h2 => by
    obtain ⟨_, _, _, e1, e2⟩ := toKeys_cons h1
    obtain ⟨_, _, _, f1, f2⟩ := toKeys_cons h2
    rw [PyData.eqvAll, Bool.and_eq_true, eqv_key e1 f1, eqv_keys e2 f2]
    simp
end
section
variable {X : Cx} {pins : List (Addr × Obj)} {σ : L2.St} {H : Hp} {s : Shared} {F : Addr → Prop}
mutual
theorem Rp.nkey (I : Inv X pins σ H s) : ∀ {d : PyData} {v : V} {u : Value} {k : NestedKey}, Rp (.of X) F H d v → RelV v u → toKey d = some k → NestedIs s.heap k u
  | .none, _, _, _, .non, r, h => by
    cases h
    rw [show _ = Value.none from r]
    exact .none
  | .int i, _, _, _, .int _, r, h => by
    cases h
    obtain ⟨t, rfl⟩ := r
    exact .int _ _
  | .str i, _, _, _, .str _, r, h => by
    cases h
    obtain ⟨t, rfl⟩ := r
    exact .text _ _
  | .tuple xs, _, _, _, .tup hx ra, r, h => by
    obtain ⟨ks, rfl, e⟩ := toKey_tup h
    obtain ⟨its, rv, ⟨o, ho, hc, n, hd⟩, _⟩ := I.tuple hx
    rw [show _ = Value.ref _ from r]
    exact .tup ho hc hd (by simpa using RpAll.nkeys I ra rv e)
  | .bool _, _, _, _, _, _, h => by cases h
  | .list _, _, _, _, _, _, h => by cases h
  | .dict _, _, _, _, _, _, h => by cases h
theorem RpAll.nkeys (I : Inv X pins σ H s) : ∀ {ds : List PyData} {vs : List V} {us : List Value} {ks : List NestedKey}, RpAll (.of X) F H ds vs → Vals vs us → toKeys ds = some ks → NestedAll s.heap ks us
  | [], _, _, _, .nil, .nil, h => by
    cases h
    exact .nil
  | d :: ds, _, _, _, .cons r t, .cons q u, h => by
    obtain ⟨_, _, rfl, e1, e2⟩ := toKeys_cons h
    exact .cons (Rp.nkey I r q e1) (RpAll.nkeys I t u e2)
end
end
def ddup : List PyData → List PyData
  | [] => []
  | d :: r => if (ddup r).any (PyData.eqv d) = true then ddup r else d :: ddup r
def dsort (ds : List PyData) : List PyData := ds.mergeSort (PySem.W.dataLe false fun d => d)
def keyed (d : PyData) : Prop := ∃ k, toKey d = some k
theorem ddup_spec : ∀ {ds : List PyData}, (∀ d ∈ ds, keyed d) → (∀ d, d ∈ ddup ds ↔ d ∈ ds) ∧ (ddup ds).Nodup
  | [], _ => by simp [ddup]
  | d :: r, h => by
    obtain ⟨m, nd⟩ := ddup_spec (ds := r) fun x hx => h x (List.mem_cons_of_mem _ hx)
    obtain ⟨k, hk⟩ := h d List.mem_cons_self
    have e : (ddup r).any (PyData.eqv d) = true ↔ d ∈ r := by
      rw [List.any_eq_true]
      refine ⟨fun ⟨x, hx, q⟩ => ?_, fun hd => ⟨d, (m d).mpr hd, (eqv_key hk hk).mpr rfl⟩⟩
      obtain ⟨k', hk'⟩ := h x (List.mem_cons_of_mem _ ((m x).mp hx))
      rw [(eqv_key hk hk').mp q]
      exact (m x).mp hx
    unfold ddup
    by_cases q : d ∈ r
    · rw [if_pos (e.mpr q)]
      exact ⟨fun x => by rw [m]; simp only [List.mem_cons]; exact ⟨.inr, fun z => z.elim (fun z => z ▸ q) id⟩, nd⟩
    · rw [if_neg (fun z => q (e.mp z))]
      exact ⟨fun x => by simp only [List.mem_cons, m], List.nodup_cons.mpr ⟨fun z => q ((m d).mp z), nd⟩⟩
theorem dataLe_anti {x y : PyData} (hx : keyed x) (hy : keyed y) (al : PySem.W.alike x y = true) (h1 : PySem.W.dataLe false (fun d => d) x y = true) (h2 : PySem.W.dataLe false (fun d => d) y x = true) : x = y := by
  have e : PySem.W.keyToks x = PySem.W.keyToks y := (PyProof.Rows.listOrd PyProof.Rows.itemOrd).total _ _ (by simpa [PySem.W.dataLe, PySem.W.sortLe] using h2) (by simpa [PySem.W.dataLe, PySem.W.sortLe] using h1)
  obtain ⟨a, ha⟩ := hx
  obtain ⟨b, hb⟩ := hy
  rw [← eqv_key ha hb]
  cases q : PyData.eqv x y with
  | true => rfl
  | false =>
    have := (PySem.W.toks_eqv x y al).2 q [] [.inl 0]
    rw [e, PySem.W.lex_pre, lex_irrefl] at this
    exact absurd this (by simp [PyProof.Rows.lexLt])
theorem dsort_sorted (ds : List PyData) : (dsort ds).Pairwise fun a b => PySem.W.dataLe false (fun d => d) a b = true := PySem.W.sort_pairwise (PySem.W.sortLe_total _ _ _) ds
theorem dsort_perm (ds : List PyData) : (dsort ds).Perm ds := List.mergeSort_perm _ _
theorem dsort_eq {ds es : List PyData} (hp : ds.Perm es) (hk : ∀ d ∈ ds, keyed d) (al : PySem.W.AllAlike ds) : dsort ds = dsort es :=
  List.Perm.eq_of_pairwise (fun a b ha hb => dataLe_anti (hk a ((dsort_perm ds).mem_iff.mp ha)) (hk b (hp.mem_iff.mpr ((dsort_perm es).mem_iff.mp hb))) (al a ((dsort_perm ds).mem_iff.mp ha) b (hp.mem_iff.mpr ((dsort_perm es).mem_iff.mp hb)))) (dsort_sorted ds) (dsort_sorted es) (((dsort_perm ds).trans hp).trans (dsort_perm es).symm)
end PD
namespace PD
open PySem PySem.Spec PyProof.Rows L2
theorem bt_set : bootBuiltins "set" = some (.type "set") := by decide +kernel
theorem bt_sorted : bootBuiltins "sorted" = some (.builtin "sorted") := by decide +kernel
def RowsAt (M : Mo) (F : Addr → Prop) (H : Hp) (L : List KRow) : Prop := ∀ p ∈ L, Rp M F H p.2.data (.ref p.1) ∧ toKey p.2.data = some p.2 ∧ p.2.depth ≤ 8
theorem RowsAt.keys {X : Cx} {pins : List (Addr × Obj)} {σ : L2.St} {H : Hp} {s : Shared} {F : Addr → Prop} {L : List KRow} (I : Inv X pins σ H s) (h : RowsAt (.of X) F H L) : ∀ p ∈ L, KeyOf s.heap p.2 p.1 := fun p hp => by
  obtain ⟨h1, h2, h3⟩ := h p hp
  exact ⟨h1.nkey I rfl h2, h3⟩
end PD
namespace PD
open PySem PySem.Spec PyProof.Rows L2
section
variable {X : Cx} {W : WX} {O : Own} {pos : Pos}
def revA : SV → Store → Rs SV
  | .d (.list xs), S => .ok (.d (.list xs.reverse)) S
  | .d (.tuple xs), S => .ok (.d (.tuple xs.reverse)) S
  | _, _ => .bad
end
def ltOk (d e : PyData) : Bool := PySem.W.alike d e && decide (min d.depth e.depth ≤ 190)
def ltD : SV → SV → Store → Rs SV
  | .d (.tuple xs), .d (.tuple ys), S => if ltOk (.tuple xs) (.tuple ys) = true then .ok (.d (.bool (PySem.W.dataLt (.tuple xs) (.tuple ys)))) S else .bad
  | x, y, S => ltV x y S
def ltDR (X : Cx) : R2 := fun x y H Q => (∃ F F' xs ys, Rp (.of X) F H (.tuple xs) x ∧ Rp (.of X) F' H (.tuple ys) y ∧ ltOk (.tuple xs) (.tuple ys) = true ∧ Q (.bl (PySem.W.dataLt (.tuple xs) (.tuple ys))) H) ∨ (cmpR (fun i j => decide (i < j)) fun i j => decide (i.cps.toList < j.cps.toList)) x y H Q
theorem op_ltD {X : Cx} {k : Nat} (hr : Room k X.A) : OpR X (compareOp .Lt) (ltDR X) := by
  intro pins s σ H x y v u Q I rx ry h
  rcases h with ⟨F, F', xs, ys, hd, he, ok, q⟩ | h
  · obtain ⟨as, r1⟩ := hd.reads I rx
    obtain ⟨bs, r2⟩ := he.reads I ry
    simp only [ltOk, Bool.and_eq_true, decide_eq_true_eq] at ok
    exact PySem.W.rcLt_alike _ _ X.A s v u as bs r1 r2 ok.1 (fun z => by cases z) (room190 hr ok.2) X.prog X.w X.xe (EP X pins σ Q) ⟨.bl _, H, I, rfl, q⟩
  · exact op_ltR pins s σ H x y v u Q I rx ry h
theorem p_ltD {X : Cx} : P2 (.of X) (ltDR X) ltD := by
  intro W O σ H fr S G x y u v Q R rx ry h
  unfold ltD at h
  split at h
  · split at h
    · rename_i ok
      obtain ⟨_, rx⟩ := rx.any
      obtain ⟨_, ry⟩ := ry.any
      exact .inl ⟨_, _, _, _, rx, ry, ok, h.here R (.bl _)⟩
    · exact h.not_bad.elim
  · exact .inr (p_lt R rx ry h)
end PD
namespace PD
open PySem PySem.Spec PyProof.Rows L2
def isTup : PyData → Bool
  | .tuple _ => true
  | _ => false
def keyT (d : PyData) : Bool := isTup d && (match toKey d with
  | some k => decide (k.depth ≤ 8)
  | none => false)
theorem keyT_some {d : PyData} (h : keyT d = true) : ∃ k, toKey d = some k ∧ k.depth ≤ 8 := by
  simp only [keyT, Bool.and_eq_true] at h
  obtain ⟨_, h⟩ := h
  cases e : toKey d with
  | none => rw [e] at h; cases h
  | some k => rw [e] at h; exact ⟨k, rfl, by simpa using h⟩
def dget (ds : List (PyData × PyData)) (kd : PyData) : Option PyData := (ds.find? fun p => decide (toKey p.1 = toKey kd)).map (·.2)
def dput (ds : List (PyData × PyData)) (kd vd : PyData) : List (PyData × PyData) := if (dget ds kd).isSome = true then ds.map fun p => if toKey p.1 = toKey kd then (p.1, vd) else p else ds ++ [(kd, vd)]
def tupKeys (ds : List (PyData × PyData)) : Bool := ds.all fun p => isTup p.1
abbrev ER := NestedKey × Addr × V
def esPut (es : List ER) (k : NestedKey) (b : Addr) (v : V) : List ER := if (es.any fun e => decide (e.1 = k)) = true then es.map fun e => if e.1 = k then (e.1, e.2.1, v) else e else es ++ [(k, b, v)]
abbrev DR (M : Mo) (F : Addr → Prop) (H : Hp) : List (PyData × PyData) → List ER → Prop := Paired fun p e => (toKey p.1 = some e.1 ∧ e.1.depth ≤ 8) ∧ Rp M F H p.1 (.ref e.2.1) ∧ Rp M F H p.2 e.2.2
section
variable {M : Mo} {F F' : Addr → Prop} {H H' : Hp}
theorem DR.of : ∀ {ds : List (PyData × PyData)} {es : List ER}, KeysAre ds es → RpAll M F H (ds.map (·.1)) (es.map fun e => V.ref e.2.1) → RpAll M F H (ds.map (·.2)) (es.map (·.2.2)) → DR M F H ds es
  | _, _, .nil, _, _ => .nil
  | _, _, .cons h t, .cons r1 t1, .cons r2 t2 => .cons ⟨h, r1, r2⟩ (DR.of t t1 t2)
theorem DR.parts : ∀ {ds : List (PyData × PyData)} {es : List ER}, DR M F H ds es → KeysAre ds es ∧ RpAll M F H (ds.map (·.1)) (es.map fun e => V.ref e.2.1) ∧ RpAll M F H (ds.map (·.2)) (es.map (·.2.2))
  | _, _, .nil => ⟨.nil, .nil, .nil⟩
  | _, _, .cons ⟨h, r1, r2⟩ t => ⟨.cons h (DR.parts t).1, .cons r1 (DR.parts t).2.1, .cons r2 (DR.parts t).2.2⟩
theorem DR.keep (k : Keeps F F' H H') {ds : List (PyData × PyData)} {es : List ER} (h : DR M F H ds es) : DR M F' H' ds es := Paired.mapP h fun _ _ ⟨a, b, c⟩ => ⟨a, Rp.keep k b, Rp.keep k c⟩
theorem DR.any {kd : PyData} {k : NestedKey} (hk : toKey kd = some k) : ∀ {ds : List (PyData × PyData)} {es : List ER}, DR M F H ds es → (dget ds kd).isSome = es.any fun e => decide (e.1 = k)
  | _, _, .nil => rfl
  | _, _, .cons (a := p) (b := e) ⟨⟨h, _⟩, _, _⟩ t => by
    have ih := DR.any hk t
    rw [List.any_cons, ← ih]
    unfold dget
    rw [List.find?_cons]
    by_cases q : e.1 = k
    · have : decide (toKey p.1 = toKey kd) = true := by rw [h, hk, q]; simp
      rw [this]
      simp [q]
    · have : decide (toKey p.1 = toKey kd) = false := by rw [h, hk]; simp [q]
      rw [this]
      simp [q]
theorem DR.repl {kd vd : PyData} {k : NestedKey} {v : V} (hk : toKey kd = some k) (rv : Rp M F H vd v) : ∀ {ds : List (PyData × PyData)} {es : List ER}, DR M F H ds es →
    DR M F H (ds.map fun p => if toKey p.1 = toKey kd then (p.1, vd) else p) (es.map fun e => if e.1 = k then (e.1, e.2.1, v) else e)
  | _, _, .nil => .nil
  | _, _, .cons (a := p) (b := e) ⟨⟨h, hd⟩, r1, r2⟩ t => by
    rw [List.map_cons, List.map_cons]
    refine .cons ?_ (DR.repl hk rv t)
    by_cases q : e.1 = k
    · rw [if_pos q, if_pos (by rw [h, hk, q])]
      exact ⟨⟨h, hd⟩, r1, rv⟩
    · rw [if_neg q, if_neg (by rw [h, hk]; simp [q])]
      exact ⟨⟨h, hd⟩, r1, r2⟩
theorem DR.put {kd vd : PyData} {k : NestedKey} {b : Addr} {v : V} {ds : List (PyData × PyData)} {es : List ER} (h : DR M F H ds es) (hk : toKey kd = some k) (dk : k.depth ≤ 8) (rk : Rp M F H kd (.ref b)) (rv : Rp M F H vd v) : DR M F H (dput ds kd vd) (esPut es k b v) := by
  unfold dput esPut
  rw [DR.any hk h]
  by_cases q : (es.any fun e => decide (e.1 = k)) = true
  · rw [if_pos q, if_pos q]; exact DR.repl hk rv h
  · rw [if_neg q, if_neg q]; exact Paired.snoc h ⟨⟨hk, dk⟩, rk, rv⟩
abbrev XR : List ER → List (NestedKey × Addr × Value) → Prop := Paired fun e x => e.1 = x.1 ∧ e.2.1 = x.2.1 ∧ RelV e.2.2 x.2.2
theorem XR.val {k : NestedKey} : ∀ {es : List ER} {xs : List (NestedKey × Addr × Value)}, XR es xs → (es.any fun e => decide (e.1 = k)) = (atKey xs k).isSome
  | _, _, .nil => rfl
  | _, _, .cons (a := e) (b := x) ⟨h, _, _⟩ t => by
    rw [List.any_cons, XR.val t]
    unfold atKey
    rw [List.find?_cons, ← h]
    by_cases q : e.1 = k
    · simp [q]
    · simp [q]
theorem XR.put {k : NestedKey} {b : Addr} {v : V} {u : Value} (rv : RelV v u) {es : List ER} {xs : List (NestedKey × Addr × Value)} (h : XR es xs) : XR (esPut es k b v) (storedH xs k b u) := by
  unfold esPut storedH
  rw [XR.val h]
  by_cases q : (atKey xs k).isSome = true
  · rw [if_pos q, if_pos q]
    clear q
    induction h with
    | nil => exact .nil
    | @cons e x es xs h t ih =>
      rw [List.map_cons, List.map_cons]
      refine .cons ?_ ih
      obtain ⟨h1, h2, h3⟩ := h
      unfold putAt
      by_cases q : e.1 = k
      · rw [if_pos q, if_pos (h1.symm.trans q)]; exact ⟨h1, h2, rv⟩
      · rw [if_neg q, if_neg (fun z => q (h1.trans z))]; exact ⟨h1, h2, h3⟩
  · rw [if_neg q, if_neg q]; exact Paired.snoc h ⟨rfl, rfl, rv⟩
theorem XR.keys {es : List ER} {xs : List (NestedKey × Addr × Value)} (h : XR es xs) : es.map (·.1) = xs.map (·.1) := by
  induction h with
  | nil => rfl
  | cons h t ih => rw [List.map_cons, List.map_cons, ih, h.1]
end
section
variable {P : Program} {w : World} {h : Heap} {a : Addr}
theorem xs_of {P : Program} : ∀ {es : List ER} {ds : List DictEntry}, Paired (fun (p : NestedKey × Addr × V) (e : DictEntry) => e.hash = p.1.hash w ∧ e.key = .ref p.2.1 ∧ RelV p.2.2 e.val) es ds →
    ∃ xs : List (NestedKey × Addr × Value), XR es xs ∧ ds = xs.map (entryOfKey (nestedKind P w))
  | _, _, .nil => ⟨[], .nil, rfl⟩
  | _, _, .cons (a := p) (b := e) ⟨h1, h2, h3⟩ t => by
    obtain ⟨xs, r, q⟩ := xs_of (P := P) t
    obtain ⟨eh, ek, ev⟩ := e
    simp only at h1 h2 h3
    subst h1 h2
    exact ⟨(p.1, p.2.1, ev) :: xs, .cons ⟨rfl, rfl, h3⟩ r, by rw [List.map_cons, q]; rfl⟩
theorem of_dictObj {es : List ER} (o : dictObj w a es h) (ky : ∀ e ∈ es, NestedIs h e.1 (.ref e.2.1) ∧ e.1.depth ≤ 8) : ∃ xs, XR es xs ∧ h.DictOfH (nestedKind P w) a xs ∧ (a == sysModules) = false := by
  obtain ⟨o, ds, ep, e, hx, hd, hp, nd, ne⟩ := o
  obtain ⟨xs, r, q⟩ := xs_of (P := P) hp
  refine ⟨xs, r, ⟨o, ds, ep, e, hx, hd, q, fun x hxm => ?_, by rw [← r.keys]; exact nd⟩, beq_eq_false_iff_ne.mpr (Ne.symm ne)⟩
  have all : ∀ {es : List ER} {xs : List (NestedKey × Addr × Value)}, XR es xs → (∀ e ∈ es, NestedIs h e.1 (.ref e.2.1) ∧ e.1.depth ≤ 8) → ∀ x ∈ xs, (nestedKind P w).is h x.1 x.2.1 := by
    intro es xs r
    induction r with
    | nil => intro _ x hx; exact nomatch hx
    | @cons e x es xs hh t ih =>
      intro ky y hy
      rcases List.mem_cons.mp hy with q | q
      · subst q
        have := ky e List.mem_cons_self
        rw [hh.1, hh.2.1] at this
        exact this
      · exact ih (fun e he => ky e (List.mem_cons_of_mem _ he)) y q
  exact all r ky x hxm
theorem to_dictObj {es : List ER} {xs : List (NestedKey × Addr × Value)} (r : XR es xs) (d : h.DictOfH (nestedKind P w) a xs) (ne : (a == sysModules) = false) : dictObj w a es h := by
  obtain ⟨o, ds, ep, e, hx, hd, q, hk, nd⟩ := d
  refine ⟨o, ds, ep, e, hx, hd, ?_, by rw [r.keys]; exact nd, Ne.symm (beq_eq_false_iff_ne.mp ne)⟩
  rw [q]
  clear q nd hd hk
  induction r with
  | nil => exact .nil
  | @cons e x es xs hh t ih => exact .cons ⟨by rw [hh.1]; rfl, by rw [hh.2.1]; rfl, hh.2.2⟩ ih
theorem ext_ok {P : Program} {H : Hp} {es : List ER} (d : dictObj w a es h) : ObjOk P w H h a (.ext (dictObj w a es)) :=
  ⟨d, let ⟨o, _, _, e, _⟩ := d; ⟨o, e⟩, fun h1 h2 ⟨o, ds, ep, e, r⟩ k => ⟨o, ds, ep, k o e, r⟩⟩
end
section
variable {X : Cx} {pins : List (Addr × Obj)} {σ : L2.St} {H : Hp} {s : Shared} {F : Addr → Prop} {a : Addr}
def DAt (X : Cx) (H : Hp) (a : Addr) (es : List ER) : Prop := H a = some (.ext (dictObj X.w a es)) ∨ (es = [] ∧ H a = some (.dK []))
theorem DAt.heap (I : Inv X pins σ H s) {ds : List (PyData × PyData)} {es : List ER} (h : DAt X H a es) (r : DR (.of X) F H ds es) : ∃ xs, XR es xs ∧ s.heap.DictOfH (nestedKind X.prog X.w) a xs ∧ (a == sysModules) = false := by
  rcases h with h | ⟨rfl, h⟩
  · obtain ⟨d, _⟩ := I.hok _ _ h
    refine of_dictObj d ?_
    have all : ∀ {ds : List (PyData × PyData)} {es : List ER}, DR (.of X) F H ds es → ∀ e ∈ es, NestedIs s.heap e.1 (.ref e.2.1) ∧ e.1.depth ≤ 8 := by
      intro ds es r
      induction r with
      | nil => intro e he; exact nomatch he
      | @cons p e ds es hh t ih =>
        intro y hy
        rcases List.mem_cons.mp hy with q | q
        · subst q
          exact ⟨Rp.nkey I hh.2.1 rfl hh.1.1, hh.1.2⟩
        · exact ih y q
    exact all r
  · obtain ⟨_, y, vs, rv, o, es, ep, e, hx, hd, ko, hp, nd⟩ := I.hok _ _ h
    cases rv
    refine ⟨[], .nil, ⟨o, es, ep, e, hx, hd, ?_, (fun x hx => by cases hx), List.nodup_nil⟩, y⟩
    have hp' : Pairs (mixKind X.prog X.w) es.toList [] := hp
    cases hq : es.toList with
    | nil => rfl
    | cons z zs => rw [hq] at hp'; cases hp'
theorem tupKeys_dK {M : Mo} : ∀ {ds : List (PyData × PyData)} {kvs : List (Key × V)}, RpAll M F H (ds.map (·.1)) (kvs.map fun p => kV p.1) → tupKeys ds = true → ds = [] ∧ kvs = []
  | [], [], _, _ => ⟨rfl, rfl⟩
  | [], _ :: _, r, _ => by cases r
  | _ :: _, [], r, _ => by cases r
  | (k, v) :: ds, (q, u) :: kvs, r, h => by
    exfalso
    simp only [tupKeys, List.all_cons, Bool.and_eq_true] at h
    rw [List.map_cons, List.map_cons] at r
    cases r with
    | cons r t =>
      obtain ⟨h, _⟩ := h
      cases k with
      | tuple xs =>
        cases q with
        | inl i => exact nomatch (show Rp M F H (.tuple xs) (.int i) from r)
        | inr i => exact nomatch (show Rp M F H (.tuple xs) (.str i) from r)
      | _ => simp [isTup] at h
theorem Rp.dAt {ds : List (PyData × PyData)} {v : V} (r : Rp (.of X) F H (.dict ds) v) (h : tupKeys ds = true) : ∃ a es, v = .ref a ∧ DAt X H a es ∧ DR (.of X) F H ds es := by
  cases r with
  | dK f q r1 r2 =>
    obtain ⟨rfl, rfl⟩ := tupKeys_dK r1 h
    exact ⟨_, [], rfl, .inr ⟨rfl, q⟩, .nil⟩
  | dN f q z r1 r2 => exact ⟨_, _, rfl, .inl q, DR.of z r1 r2⟩
theorem Cont.dAt {ds : List (PyData × PyData)} (c : Cont (.of X) F H a (.d (.dict ds))) (h : tupKeys ds = true) : ∃ es, DAt X H a es ∧ DR (.of X) F H ds es := by
  rcases c with ⟨_, _, e, _⟩ | ⟨es, kvs, e, q, r1, r2⟩ | ⟨es, kvs, e, q, z, r1, r2⟩
  · cases e
  · cases e
    obtain ⟨rfl, rfl⟩ := tupKeys_dK r1 h
    exact ⟨[], .inr ⟨rfl, q⟩, .nil⟩
  · cases e
    exact ⟨_, .inl q, DR.of z r1 r2⟩
theorem Rp.keyAt (I : Inv X pins σ H s) {kd : PyData} {v : V} (r : Rp (.of X) F H kd v) (h : keyT kd = true) : ∃ b k, v = .ref b ∧ toKey kd = some k ∧ (nestedKind X.prog X.w).is s.heap k b := by
  obtain ⟨k, e, dk⟩ := keyT_some h
  cases kd with
  | tuple xs =>
    cases r with
    | tup q rr => exact ⟨_, k, rfl, e, Rp.nkey I (Rp.tup q rr) rfl e, dk⟩
  | _ => simp [keyT, isTup] at h
theorem DR.get {M : Mo} {kd : PyData} {k : NestedKey} (hk : toKey kd = some k) : ∀ {ds : List (PyData × PyData)} {es : List ER} {xs : List (NestedKey × Addr × Value)}, DR M F H ds es → XR es xs → ∀ {d : PyData}, dget ds kd = some d →
    ∃ p v, atKey xs k = some p ∧ Rp M F H d v ∧ RelV v p.2
  | _, _, _, .nil, .nil, _, e => by cases e
  | _, _, _, .cons (a := p) (b := e) ⟨⟨h, _⟩, _, r2⟩ t, .cons (b := x) ⟨h1, h2, h3⟩ t', d, eq => by
    unfold dget at eq
    rw [List.find?_cons] at eq
    unfold atKey
    rw [List.find?_cons]
    by_cases q : e.1 = k
    · have z : decide (toKey p.1 = toKey kd) = true := by rw [h, hk, q]; simp
      have z2 : decide (x.1 = k) = true := by rw [← h1]; simpa using q
      rw [z] at eq
      rw [z2]
      cases eq
      exact ⟨_, _, rfl, r2, h3⟩
    · have z : decide (toKey p.1 = toKey kd) = false := by rw [h, hk]; simp [q]
      have z2 : decide (x.1 = k) = false := by rw [← h1]; simpa using q
      rw [z] at eq
      rw [z2]
      exact DR.get hk t t' eq
end
def inDV (neg : Bool) : SV → SV → Store → Rs SV
  | .d x, .d (.dict ds), S => if (keyT x && tupKeys ds) = true then .ok (.d (.bool (neg ^^ (dget ds x).isSome))) S else .bad
  | _, _, _ => .bad
def ixDV : SV → SV → Store → Rs SV
  | .d (.dict ds), .d x, S => if (keyT x && tupKeys ds) = true then (match dget ds x with
    | some d => .ok (.d d) S
    | none => .bad) else .bad
  | _, _, _ => .bad
def inDR (X : Cx) (neg : Bool) : R2 := fun x y H Q => ∃ F F' d ds, Rp (.of X) F H d x ∧ Rp (.of X) F' H (.dict ds) y ∧ keyT d = true ∧ tupKeys ds = true ∧ Q (.bl (neg ^^ (dget ds d).isSome)) H
def ixDR (X : Cx) : R2 := fun x y H Q => ∃ F F' a es ds d z, x = .ref a ∧ DAt X H a es ∧ DR (.of X) F H ds es ∧ Rp (.of X) F' H d y ∧ keyT d = true ∧ dget ds d = some z ∧ ∀ v, Rp (.of X) F H z v → Q v H
theorem room_n {X : Cx} {k : Nat} (hr : Room k X.A) : (nestedKind X.prog X.w).room X.A.in1 := by
  have := hr.un
  show X.A.units + 1 + 8 < cLine
  omega
section
variable {X : Cx} {k : Nat}
theorem op_notInD (hr : Room k X.A) : OpR X (compareOp .NotIn) (inDR X true) := by
  intro pins s σ H x y v u Q I rx ry ⟨F, F', d, ds, hd, he, kt, tk, q⟩
  obtain ⟨b, kk, rfl, ek, hk⟩ := hd.keyAt I kt
  obtain ⟨a, es, rfl, at_, dr⟩ := he.dAt tk
  obtain ⟨xs, xr, dd, ne⟩ := at_.heap I dr
  cases rx
  cases ry
  refine wpAny_notIn_heap (room_n hr) hk ne dd ?_
  rw [← xr.val, ← DR.any ek dr]
  exact ⟨.bl _, H, I.tok _, rfl, by simpa using q⟩
theorem p_inD {neg : Bool} : P2 (.of X) (inDR X neg) (inDV neg) := by
  intro W O σ H fr S G x y u v Q R rx ry h
  unfold inDV at h
  split at h
  · split at h
    · rename_i hz
      rw [Bool.and_eq_true] at hz
      obtain ⟨_, rx⟩ := rx.any
      obtain ⟨_, ry⟩ := ry.any
      exact ⟨_, _, _, _, rx, ry, hz.1, hz.2, h.here R (.bl _)⟩
    · exact h.not_bad.elim
  · exact h.not_bad.elim
theorem RpV.dAt {G : Gh} {H : Hp} {ds : List (PyData × PyData)} {u : V} (r : RpV (.of X) G H (.d (.dict ds)) u) (h : tupKeys ds = true) : ∃ a es, u = .ref a ∧ DAt X H a es ∧ DR (.of X) G.F H ds es := by
  cases r with
  | val r => exact Rp.dAt r h
  | ownD n c =>
    obtain ⟨es, x, y⟩ := c.dAt h
    exact ⟨_, es, rfl, x, y⟩
theorem ix_dict (hr : Room k X.A) : IxR X (ixDR X) := by
  intro value slice pins s σ H x y v u Q I rx ry h hs
  obtain ⟨F, F', a, es, ds, d, z, rfl, at_, dr, hd, kt, hz, q⟩ := h
  obtain ⟨b, kk, rfl, ek, hk⟩ := hd.keyAt I kt
  obtain ⟨xs, xr, dd, ne⟩ := at_.heap I dr
  cases rx
  cases ry
  obtain ⟨p, v, hp, rv, rel⟩ := DR.get ek dr xr hz
  exact subscriptTail_builtinR (x := p.2) dd.typeIs PySem.F.slot_dict_getitem.lookup
    (wpAny_getItem_heap (Q := fun r s' => r = p.2 ∧ EP X pins σ Q r s') (room_n hr) hk dd hp ⟨rfl, v, H, I.tok _, rel, q v rv⟩) hs
theorem p_ixD : P2 (.of X) (ixDR X) ixDV := by
  intro W O σ H fr S G x y u v Q R rx ry h
  unfold ixDV at h
  split at h
  · split at h
    · rename_i hz
      rw [Bool.and_eq_true] at hz
      split at h
      · rename_i hd
        obtain ⟨_, ry⟩ := ry.any
        obtain ⟨a, es, rfl, at_, dr⟩ := rx.dAt hz.2
        exact ⟨_, _, a, es, _, _, _, rfl, at_, dr, ry, hz.1, hd, fun v rv => h.here R (show RpS (.of X) G H (.d _) v from rv)⟩
      · exact h.not_bad.elim
    · exact h.not_bad.elim
  · exact h.not_bad.elim
end
def ownD (fr : Fr) (i : Nat) : Option (List (PyData × PyData)) := match fr[i]? with
  | some (some (.d (.dict ds))) => some ds
  | _ => none
theorem ownD_some {fr : Fr} {i : Nat} {ds : List (PyData × PyData)} (h : ownD fr i = some ds) : fr[i]? = some (some (.d (.dict ds))) := by
  unfold ownD at h
  split at h
  · rename_i e
    cases h
    exact e
  · cases h
def eD (i : Nat) : EM := fun fr S => match ownD fr i with
  | some ds => .ok (.d (.dict ds)) S
  | none => .bad
theorem cv_ownD {X : Cx} {W : WX} {O : Own} {pos : Pos} (i : Nat) {x : Str} (ho : (O[i]? == some true) = true := by rfl) (hN : X.N[i]? = some x := by rfl) (hv : Vis X.env.scope x := by first | exact Or.inl rfl | exact Or.inr (Or.inl rfl) | exact Or.inr (Or.inr rfl)) (hd : (x == ("__debug__" : Str)) = false := by decide)
    (hcd : (x == ("__classdict__" : Str)) = false := by decide) : CV X W O (.Name x pos) (eD i) := by
  refine peI (pe_var hN hv hd hcd) fun σ H Q ⟨fr, S, G, R, p⟩ => ?_
  have ho' : O.has i := by simpa [Own.has] using ho
  unfold eD at p
  split at p
  · rename_i ds hds
    obtain ⟨u, h1, h2, _⟩ := R.slot i _ (ownD_some hds)
    obtain ⟨a, e, nf, nr, h0, c⟩ := h2 ho'
    subst e
    exact ⟨_, h1, p.here R (.ownD nr c)⟩
  · exact p.not_bad.elim
def rSetD (X : Cx) : TSet := fun o i v H Q => ∃ F F' a b es ds kd, o = .ref a ∧ DAt X H a es ∧ DR (.of X) F H ds es ∧ i = .ref b ∧ Rp (.of X) F' H kd (.ref b) ∧ keyT kd = true ∧ es.length ≤ sizeLine ∧
  ∀ k, toKey kd = some k → k.depth ≤ 8 → Q (upd H a (.ext (dictObj X.w a (esPut es k b v))))
theorem set_dict {X : Cx} {k : Nat} (hr : Room k X.A) : PSet X (rSetD X) := by
  intro pins s σ H o i v ov iv u Q I ro ri rv h
  obtain ⟨F, F', a, b, es, ds, kd, rfl, at_, dr, rfl, hd, kt, hl, q⟩ := h
  obtain ⟨b', kk, eb, ek, hk⟩ := hd.keyAt I kt
  cases eb
  obtain ⟨xs, xr, dd, ne⟩ := at_.heap I dr
  cases ro
  cases ri
  refine wpAny_setItem_heap (hsz := by rw [← xr.length]; exact hl) (room_n hr) hk dd fun h' dd' hs => ?_
  have he : ∃ q, h'.get? a = some q := let ⟨q, _, _, hq, _⟩ := dd'; ⟨q, hq⟩
  refine ⟨_, d_write I ?_ hs he (ext_ok (to_dictObj (xr.put rv) dd' ne)), q kk ek hk.2⟩
  rcases at_ with e | ⟨_, e⟩ <;> (rw [e]; exact True.intro)
def sPutD (i : Nat) (m k : EM) : SM := fun fr S => match ownD fr i with
  | some ds => (m fr S).toS fr fun y S1 => (k fr S1).toS fr fun z S2 => (match y, z with
    | .d d, .d kd => if (keyT kd && tupKeys ds && decide (ds.length ≤ sizeLine)) = true then .nx (fr.set i (some (.d (.dict (dput ds kd d))))) S2 else .bad
    | _, _ => .bad)
  | none => .bad
section
variable {X : Cx} {W : WX} {L O : Own} {st : Stmt}
theorem cs_putD (i : Nat) {m k : EM} (ho : (O[i]? == some true) = true) (h : PS X st (tAsg (tM (.of X) W O m) (gSub (tVar i) (tM (.of X) W O k) (rSetD X)))) : CS X W L O st (sPutD i m k) O := by
  have ho' := has_of ho
  refine psI h fun D σ H ⟨fr, S, G, R, h⟩ => ?_
  unfold sPutD at h
  split at h
  · rename_i ds hds
    obtain ⟨u0, hs0, own0, _⟩ := R.slot i _ (ownD_some hds)
    refine ⟨fr, S, G, R, h.expr R fun y S1 u H1 G1 R1 st1 a1 ry h1 => ⟨u0, hs0, fr, S1, G1, R1, h1.expr R1 fun z S2 v H2 G2 R2 st2 a2 rz h2 => ?_⟩⟩
    split at h2
    · rename_i d kd
      split at h2
      · rename_i hz
        simp only [Bool.and_eq_true, decide_eq_true_eq] at hz
        obtain ⟨⟨kt, tk⟩, hl⟩ := hz
        obtain ⟨u1, hs1, own1, _⟩ := R2.slot i _ (ownD_some hds)
        have eu : u1 = u0 := by rw [hs0] at hs1; cases hs1; rfl
        subst eu
        obtain ⟨a, rfl, nf, nr, h0, c⟩ := own1 ho'
        obtain ⟨es, at_, dr⟩ := c.dAt tk
        have ry2 := R1.base.rps st2 ry
        obtain ⟨b, rfl⟩ : ∃ b, v = .ref b := by
          cases kd with
          | tuple xs =>
            cases (show Rp (.of X) G2.F H2 (.tuple xs) v from rz) with
            | tup _ _ => exact ⟨_, rfl⟩
          | _ => simp [keyT, isTup] at kt
        refine ⟨_, _, a, b, es, ds, kd, rfl, at_, dr, rfl, rz, kt, by rw [← Paired.length dr]; exact hl, fun k ek dk => ?_⟩
        have fz : FzOk (.of X) H2 a := (Cont.there c).choose_spec.2
        have kk := (R2.base.write (o := .ext (dictObj X.w a (esPut es k b u))) nf nr h0 fz).2
        have dr2 := DR.put (DR.keep kk dr) ek dk (Rp.keep kk rz) (Rp.keep kk ry2)
        obtain ⟨p1, p2, p3⟩ := dr2.parts
        obtain ⟨R3, a3⟩ := R2.ownWrite (o := .ext (dictObj X.w a (esPut es k b u))) (v' := .d (.dict (dput ds kd d))) ho' (ownD_some hds) hs0 (.inr (.inr ⟨_, _, rfl, upd_same, p1, p2, p3⟩))
        exact h2.nx _ S2 rfl _ _ G2 R3 a3
      · exact (h2.good rfl).elim
    · exact (h2.good rfl).elim
  · exact (h.good rfl).elim
end
def gNames : List Nat → TGs
  | [] => gNil
  | i :: is => gCons (gName i) (gNames is)
theorem gNames_ok {H : Hp} {Q : L2.St → Hp → Prop} : ∀ {is : List Nat} {us : List V} {σ : L2.St}, us.length = is.length → Q (setAllV σ is us) H → gNames is us σ H Q
  | [], [], _, _, q => ⟨rfl, q⟩
  | [], _ :: _, _, h, _ => by simp at h
  | _ :: _, [], _, h, _ => by simp at h
  | i :: is, u :: us, σ, h, q => ⟨u, us, rfl, gNames_ok (is := is) (by simpa using h) q⟩
theorem RpOs.step {M : Mo} {S : Store} {G G' : Gh} {H H' H0 : Hp} {os : List Bool} {xs : List SV} {us : List V} (B : Base M H S G) (st : Stp G H G' H') (r : RpOs M G H H0 os xs us) : RpOs M G' H' H0 os xs us := by
  induction r with
  | nil => exact .nil
  | val r u _ ih => exact .val (B.rps st r) u ih
  | own t n u _ ih => exact .own (t.step B st) n u ih
section
variable {X : Cx} {W : WX} {L O : Own} {pos : Pos}
theorem cs_parT {is : List Nat} {es tg : List Expr} {os : List Bool} {m : AM} {pt pt2 : Pos} {kt k2 : Nat} (hc : X.calm = true) (ha : CAO X W O es os m) (hos : is.length = os.length) (hz : is.length ≤ sizeLine) (hg : PGs X tg (gNames is))
    (hn : (assignEach tg X.env).length = is.length := by rfl) (hst : (assignEach tg X.env).findIdx? (·.1) = none := by rfl)
    (hs : swapsWithSole [.Tuple tg kt pt] (.Tuple es k2 pt2) pos.line X.env = pure false := by rfl) (hw : swappedStores [.Tuple tg kt pt] (.Tuple es k2 pt2) X.env = pure none := by rfl)
    (h1 : (assignEach [.Tuple tg kt pt] X.env).map (·.2) = [assign (.Tuple tg kt pt) X.env] := by rfl) :
    CS X W L O (.Assign [.Tuple tg kt pt] (.Tuple es k2 pt2) pos) (sPar is O.length m) (setAllO O is os) :=
  psI (ps_asg (pe_tup ha) (pg_tup hc hg hn hst) hs hw h1) fun D σ H ⟨fr, S, G, R, h⟩ => by
    refine ⟨fr, S, G, R, h.expr R fun xs S1 us H1 G1 R1 st1 a1 rs h1 => ?_⟩
    have hl : us.length = is.length := by rw [hos, rs.len.2]
    refine ⟨by rw [hl]; exact hz, fun p hp => ?_⟩
    obtain ⟨B, stp⟩ := R1.base.newT (o := .tup us) hp
    refine ⟨p, us, rfl, .inl (.inl upd_same), hl, gNames_ok hl ?_⟩
    split at h1
    · rename_i hz
      rw [List.all_eq_true] at hz
      have hi : ∀ i ∈ is, i < σ.length ∧ i < O.length := fun i m => by
        have q := hz i m
        rw [Bool.and_eq_true, decide_eq_true_eq, decide_eq_true_eq, R.len] at q
        exact q
      have old : OldAt O σ fr H := fun j w a oj e1 e2 => R.own_there oj e1 e2
      have R2 := R1.step stp B
      refine h1.nx _ S1 rfl _ _ G1 (R2.storeAll old (rs.step R1.base stp) hos.symm.symm hi fun a _ z => ?_) (R1.base.adv stp)
      rw [st1.h0] at z
      exact fun q => z (R.base.new0 q).1
    · exact (h1.good rfl).elim
end
end PD
namespace PD
open PySem PySem.Spec PyProof.Rows L2
end PD
namespace PD
open PySem PySem.Spec PyProof.Rows L2
section
variable {prog : Program} {w : World} {A : Around} {E : Value → Shared → Prop} {s : Shared}
def EntAt (h : Heap) (d : Addr) (es : Array DictEntry) (ep : Nat) : Prop := ∃ o, h.get? d = some o ∧ o.ExactDict ∧ o.data = .dict es ep
theorem EntAt.typeIs {d : Addr} {es : Array DictEntry} {ep : Nat} (x : EntAt s.heap d es ep) : s.TypeIs (.ref d) "dict" := let ⟨o, ho, hc, _⟩ := x; ⟨o, ho, hc.1⟩
theorem EntAt.at {h h' : Heap} {d : Addr} {es : Array DictEntry} {ep : Nat} (x : EntAt h d es ep) (e : ∀ o, h.get? d = some o → h'.get? d = some o) : EntAt h' d es ep := let ⟨o, ho, r⟩ := x; ⟨o, e _ ho, r⟩
end
end PD
namespace PD
open PySem PySem.Spec PyProof.Rows L2
end PD
namespace PD
open PySem PySem.Spec PyProof.Rows L2
@[irreducible] def Rs.sat {α : Type} (r : Rs α) (Q : α → Store → Prop) (X : Exc → Store → Prop) : Prop := match r with
  | .ok a S => Q a S
  | .exc x S => X x S
  | .bad => False
abbrev NoX : Exc → Store → Prop := fun _ _ => False
structure Po where
  nx : Fr → Store → Prop
  bk : Fr → Store → Prop
  ct : Fr → Store → Prop
  rt : SV → Store → Prop
  ex : Exc → Store → Prop
@[irreducible] def SR.sat (r : SR) (p : Po) : Prop := match r with
  | .nx fr S => p.nx fr S
  | .bk fr S => p.bk fr S
  | .ct fr S => p.ct fr S
  | .rt v S => p.rt v S
  | .exc x _ S => p.ex x S
  | .bad => False
section
variable {α β : Type} {Q Q' : α → Store → Prop} {X X' : Exc → Store → Prop} {a : α} {S : Store} {r : Rs α} {fr : Fr} {p p' : Po}
theorem sat_ok : (Rs.ok a S).sat Q X = Q a S := by unfold Rs.sat; rfl
theorem sat_exc {x : Exc} : (Rs.exc x S : Rs α).sat Q X = X x S := by unfold Rs.sat; rfl
theorem sat_bad : (Rs.bad : Rs α).sat Q X = False := by unfold Rs.sat; rfl
theorem sat_bind {f : α → Store → Rs β} {Q : β → Store → Prop} : (r.bind f).sat Q X = r.sat (fun a S => (f a S).sat Q X) X := by
  cases r with
  | ok a S =>
    rw [sat_ok]
    rfl
  | exc x S =>
    rw [sat_exc]
    show (Rs.exc x S : Rs β).sat Q X = _
    rw [sat_exc]
  | bad =>
    rw [sat_bad]
    show (Rs.bad : Rs β).sat Q X = _
    rw [sat_bad]
theorem Rs.sat.mono (h : r.sat Q X) (hq : ∀ a S, Q a S → Q' a S) (hx : ∀ x S, X x S → X' x S) : r.sat Q' X' := by
  cases r with
  | ok a S =>
    rw [sat_ok] at h ⊢
    exact hq a S h
  | exc x S =>
    rw [sat_exc] at h ⊢
    exact hx x S h
  | bad =>
    rw [sat_bad] at h
    exact h.elim
theorem Rs.sat.on (h : r.sat Q NoX) (hq : ∀ a S, Q a S → Q' a S) : r.sat Q' X := h.mono hq fun _ _ z => z.elim
theorem Rs.sat.ex (h : r.sat Q NoX) : ∃ a S, r = .ok a S ∧ Q a S := by
  cases r with
  | ok a S =>
    rw [sat_ok] at h
    exact ⟨a, S, rfl, h⟩
  | exc x S =>
    rw [sat_exc] at h
    exact h.elim
  | bad =>
    rw [sat_bad] at h
    exact h.elim
theorem sat_of (h : Q a S) : (Rs.ok a S).sat Q X := by
  rw [sat_ok]
  exact h
theorem sat_if {c : Prop} [Decidable c] {r : Rs α} : (if c then r else .bad).sat Q X = (c ∧ r.sat Q X) := by
  by_cases h : c
  · rw [if_pos h]
    simp [h]
  · rw [if_neg h, sat_bad]
    simp [h]
theorem ssat_nx : (SR.nx fr S).sat p = p.nx fr S := by unfold SR.sat; rfl
theorem ssat_bk : (SR.bk fr S).sat p = p.bk fr S := by unfold SR.sat; rfl
theorem ssat_ct : (SR.ct fr S).sat p = p.ct fr S := by unfold SR.sat; rfl
theorem ssat_rt {v : SV} : (SR.rt v S).sat p = p.rt v S := by unfold SR.sat; rfl
theorem ssat_exc {x : Exc} : (SR.exc x fr S).sat p = p.ex x S := by unfold SR.sat; rfl
theorem ssat_bad : SR.bad.sat p = False := by unfold SR.sat; rfl
theorem ssat_toS {f : α → Store → SR} : (r.toS fr f).sat p = r.sat (fun a S => (f a S).sat p) p.ex := by
  cases r with
  | ok a S =>
    rw [sat_ok]
    rfl
  | exc x S =>
    rw [sat_exc]
    show (SR.exc x fr S).sat p = _
    rw [ssat_exc]
  | bad =>
    rw [sat_bad]
    show SR.bad.sat p = _
    rw [ssat_bad]
theorem ssat_next {r : SR} {f : Fr → Store → SR} : (r.next f).sat p = r.sat { p with nx := fun fr S => (f fr S).sat p } := by
  cases r with
  | nx fr S =>
    rw [ssat_nx]
    rfl
  | bk fr S =>
    rw [ssat_bk]
    show (SR.bk fr S).sat p = _
    rw [ssat_bk]
  | ct fr S =>
    rw [ssat_ct]
    show (SR.ct fr S).sat p = _
    rw [ssat_ct]
  | rt v S =>
    rw [ssat_rt]
    show (SR.rt v S).sat p = _
    rw [ssat_rt]
  | exc x fr S =>
    rw [ssat_exc]
    show (SR.exc x fr S).sat p = _
    rw [ssat_exc]
  | bad =>
    rw [ssat_bad]
    show SR.bad.sat p = _
    rw [ssat_bad]
theorem ssat_if {c : Prop} [Decidable c] {r : SR} : (if c then r else .bad).sat p = (c ∧ r.sat p) := by
  by_cases h : c
  · rw [if_pos h]
    simp [h]
  · rw [if_neg h, ssat_bad]
    simp [h]
theorem SR.sat.mono {r : SR} (h : r.sat p) (h1 : ∀ fr S, p.nx fr S → p'.nx fr S) (h2 : ∀ fr S, p.bk fr S → p'.bk fr S) (h3 : ∀ fr S, p.ct fr S → p'.ct fr S) (h4 : ∀ v S, p.rt v S → p'.rt v S) (h5 : ∀ x S, p.ex x S → p'.ex x S) : r.sat p' := by
  cases r with
  | nx fr S =>
    rw [ssat_nx] at h ⊢
    exact h1 _ _ h
  | bk fr S =>
    rw [ssat_bk] at h ⊢
    exact h2 _ _ h
  | ct fr S =>
    rw [ssat_ct] at h ⊢
    exact h3 _ _ h
  | rt v S =>
    rw [ssat_rt] at h ⊢
    exact h4 _ _ h
  | exc x fr S =>
    rw [ssat_exc] at h ⊢
    exact h5 _ _ h
  | bad =>
    rw [ssat_bad] at h
    exact h.elim
theorem sat_ite {α : Type} {c : Prop} [Decidable c] {r r' : Rs α} {Q : α → Store → Prop} {X : Exc → Store → Prop} : (if c then r else r').sat Q X = if c then r.sat Q X else r'.sat Q X := by
  by_cases h : c
  · rw [if_pos h, if_pos h]
  · rw [if_neg h, if_neg h]
theorem ssat_ite {c : Prop} [Decidable c] {r r' : SR} {p : Po} : (if c then r else r').sat p = if c then r.sat p else r'.sat p := by
  by_cases h : c
  · rw [if_pos h, if_pos h]
  · rw [if_neg h, if_neg h]
theorem seq_sat {m n : SM} (mid : Fr → Store → Prop) (h : (m fr S).sat { p with nx := mid }) (k : ∀ fr S, mid fr S → (n fr S).sat p) : (sSeq m n fr S).sat p := by
  show ((m fr S).next fun fr1 S1 => n fr1 S1).sat p
  rw [ssat_next]
  exact h.mono k (fun _ _ h => h) (fun _ _ h => h) (fun _ _ h => h) fun _ _ h => h
abbrev no2 : Fr → Store → Prop := fun _ _ => False
abbrev retP (Q : SV → Store → Prop) (X : Exc → Store → Prop) : Po := ⟨fun _ S => Q (.d .none) S, no2, no2, Q, X⟩
theorem sat_body {N : Nat} {m : SM} {xs : List SV} {Q : SV → Store → Prop} : (bodyF N m xs S).sat Q X = (m (xs.map some ++ List.replicate (N - xs.length) none) S).sat (retP Q X) := by
  unfold bodyF
  cases m (xs.map some ++ List.replicate (N - xs.length) none) S with
  | nx fr S => rw [ssat_nx, sat_ok]
  | bk fr S => rw [ssat_bk, sat_bad]
  | ct fr S => rw [ssat_ct, sat_bad]
  | rt v S => rw [ssat_rt, sat_ok]
  | exc x fr S => rw [ssat_exc, sat_exc]
  | bad => rw [ssat_bad, sat_bad]
theorem ssat_for {g : GM} {m : SM} {p : Po} : ∀ {xs : List SV} {fr : Fr} {S : Store} (I : Nat → Fr → Store → Prop) (n : Nat), I n fr S →
    (∀ k x fr S, xs[k]? = some x → I (n + k) fr S → ∃ fr1, g x fr = some fr1 ∧ (m fr1 S).sat ⟨I (n + k + 1), p.nx, I (n + k + 1), p.rt, p.ex⟩) → (∀ fr S, I (n + xs.length) fr S → p.nx fr S) → (forF g m xs fr S).sat p
  | [], fr, S, I, n, h0, _, hf => by
    show (SR.nx fr S).sat p
    rw [ssat_nx]
    exact hf fr S h0
  | x :: xs, fr, S, I, n, h0, hs, hf => by
    obtain ⟨fr1, e, h⟩ := hs 0 x fr S rfl h0
    have go : ∀ fr2 S2, I (n + 1) fr2 S2 → (forF g m xs fr2 S2).sat p := fun fr2 S2 h2 => by
      refine ssat_for I (n + 1) h2 (fun k y fr S e h => ?_) fun fr S h => hf fr S ?_
      · rw [show n + 1 + k = n + (k + 1) by omega] at h ⊢
        exact hs (k + 1) y fr S (by simpa using e) h
      · rw [List.length_cons, show n + (xs.length + 1) = n + 1 + xs.length by omega]
        exact h
    have e1 : forF g m (x :: xs) fr S = (match m fr1 S with
        | .nx fr2 S2 => forF g m xs fr2 S2
        | .ct fr2 S2 => forF g m xs fr2 S2
        | .bk fr2 S2 => .nx fr2 S2
        | r => r) := by
      simp only [forF, e]
      all_goals rfl
    rw [e1]
    have h' : (m fr1 S).sat ⟨I (n + 1), p.nx, I (n + 1), p.rt, p.ex⟩ := h
    cases q : m fr1 S with
    | nx fr2 S2 =>
      rw [q, ssat_nx] at h'
      exact go fr2 S2 h'
    | ct fr2 S2 =>
      rw [q, ssat_ct] at h'
      exact go fr2 S2 h'
    | bk fr2 S2 =>
      rw [q, ssat_bk] at h'
      show (SR.nx fr2 S2).sat p
      rw [ssat_nx]
      exact h'
    | rt v S2 =>
      rw [q, ssat_rt] at h'
      show (SR.rt v S2).sat p
      rw [ssat_rt]
      exact h'
    | exc x fr2 S2 =>
      rw [q, ssat_exc] at h'
      show (SR.exc x fr2 S2).sat p
      rw [ssat_exc]
      exact h'
    | bad =>
      rw [q, ssat_bad] at h'
      exact h'.elim
theorem sat_comp {g : GM} {tt : TMt} {te : EM} {vs : List Nat} {fr : Fr} {Q : List PyData → Store → Prop} : ∀ {xs : List SV} {S : Store} {acc : List PyData} (I : Nat → Store → List PyData → Prop) (n : Nat), I n S acc →
    (∀ k x S acc, xs[k]? = some x → I (n + k) S acc → ∃ fr1, g x (wipeF fr vs) = some fr1 ∧ (tt fr1 S).sat (fun b S1 => if b = true then (te fr1 S1).sat (fun y S2 => ∃ d, y = .d d ∧ acc.length < sizeLine ∧ I (n + k + 1) S2 (acc ++ [d])) NoX else I (n + k + 1) S1 acc) NoX) →
    (∀ S acc, I (n + xs.length) S acc → Q acc S) → (compF g tt te vs fr xs S acc).sat Q X
  | [], S, acc, I, n, h0, _, hf => by
    show (Rs.ok acc S).sat Q X
    rw [sat_ok]
    exact hf S acc h0
  | x :: xs, S, acc, I, n, h0, hs, hf => by
    obtain ⟨fr1, e, h⟩ := hs 0 x S acc rfl h0
    have go : ∀ S2 acc2, I (n + 1) S2 acc2 → (compF g tt te vs fr xs S2 acc2).sat Q X := fun S2 acc2 h2 => by
      refine sat_comp I (n + 1) h2 (fun k y S acc e h => ?_) fun S acc h => hf S acc ?_
      · rw [show n + 1 + k = n + (k + 1) by omega] at h ⊢
        exact hs (k + 1) y S acc (by simpa using e) h
      · rw [List.length_cons, show n + (xs.length + 1) = n + 1 + xs.length by omega]
        exact h
    have e1 : compF g tt te vs fr (x :: xs) S acc = (noX (tt fr1 S)).bind fun b S3 => if b = true then (noX (te fr1 S3)).bind fun y S4 => match y with
          | .d d => if acc.length < sizeLine then compF g tt te vs fr xs S4 (acc ++ [d]) else .bad
          | _ => .bad
        else compF g tt te vs fr xs S3 acc := by
      simp only [compF, e]
      all_goals rfl
    rw [e1]
    obtain ⟨b, S1, eb, h1⟩ := h.ex
    rw [eb]
    cases b with
    | false =>
      rw [if_neg Bool.false_ne_true] at h1
      exact go S1 acc h1
    | true =>
      rw [if_pos rfl] at h1
      obtain ⟨y, S2, ey, d, rfl, hl, h2⟩ := h1.ex
      show ((noX (te fr1 S1)).bind _).sat Q X
      rw [ey]
      show (if acc.length < sizeLine then compF g tt te vs fr xs S2 (acc ++ [d]) else .bad).sat Q X
      rw [if_pos hl]
      exact go S2 _ h2
theorem comp_pure {g : GM} {te : EM} {vs : List Nat} {fr : Fr} {S : Store} {f : SV → PyData} : ∀ {xs : List SV} {acc : List PyData}, (∀ x ∈ xs, ∃ fr1, g x (wipeF fr vs) = some fr1 ∧ te fr1 S = .ok (.d (f x)) S) → acc.length + xs.length ≤ sizeLine →
    compF g bYes te vs fr xs S acc = .ok (acc ++ xs.map f) S
  | [], acc, _, _ => by simp [compF]
  | x :: xs, acc, h, hl => by
    obtain ⟨fr1, e, h1⟩ := h x List.mem_cons_self
    have hl' : acc.length < sizeLine := by
      rw [List.length_cons] at hl
      omega
    have e1 : compF g bYes te vs fr (x :: xs) S acc = compF g bYes te vs fr xs S (acc ++ [f x]) := by
      simp only [compF, e, bYes, noX, Rs.bind, h1, if_true, if_pos hl']
    rw [e1, comp_pure (fun y hy => h y (List.mem_cons_of_mem _ hy)) (by
      rw [List.length_cons] at hl
      simp
      omega)]
    simp
end
end PD
namespace PD
open PySem PySem.Spec PyProof.Rows L2
def m__law_deck_1 : SM := sRet (eA mkObj (aC (eNew (eLc (iSeq (eSl (eV 0) (oN) (oS (eC (.int 63))))) (gSet 1) (bYes) (eA1 absI (eV 1)) [1])) (aC (eC (.int 0)) (aN))))
def m__law_deck : SM := m__law_deck_1
def F__law_deck : FN := bodyF 2 m__law_deck
def m__law_draw_1 : SM := sPutO (e2 addV (e2 ixV (eV 0) (eC (.int 1))) (eC (.int 1))) (eV 0) (eC (.int 1))
def m__law_draw_2 : SM := sAsg (ggTup 2 (ggCons (gSet 2) (ggCons (gSet 3) (ggNil)))) (fE (eA mkTup (aC (eC (.int 0)) (aC (e1 negV (eC (.int 1))) (aN)))))
def m__law_draw_4 : SM := sAsg (gSet 3) (fE (e2 modV (eA1 intV (e2 ixV (eV 0) (eC (.int 1)))) (eA1 lenV (e2 ixV (eV 0) (eC (.int 0))))))
def m__law_draw_5 : SM := sAsg (gSet 2) (fE (e2 ixV (e2 ixV (eV 0) (eC (.int 0))) (eV 3)))
def m__law_draw_3 : SM := sIf (bB (e2 gtV (eA1 lenV (e2 ixV (eV 0) (eC (.int 0)))) (eC (.int 0)))) (sSeq m__law_draw_4 m__law_draw_5) (sNx)
def m__law_draw_7 : SM := sPutO (e2 divV (eA1 intV (eV 2)) (eV 1)) (e2 ixV (eV 0) (eC (.int 0))) (eV 3)
def m__law_draw_8 : SM := sRet (e2 modV (eA1 intV (eV 2)) (eV 1))
def m__law_draw_6 : SM := sIf (bB (e2 geV (eV 2) (e2 powV (eC (.int 10)) (eC (.int 18))))) (sSeq m__law_draw_7 m__law_draw_8) (sNx)
def m__law_draw_9 : SM := sAsg (gSet 4) (fE (e2 addV (e2 addV (e2 modV (eA1 intV (eV 2)) (eC (.int 2147483563))) (e2 mulV (eC (.int 8117)) (e2 ixV (eV 0) (eC (.int 1))))) (eC (.int 3))))
def m__law_draw_10 : SM := sRet (e2 modV (eA1 intV (e2 modV (eA1 intV (e2 powV (eV 4) (eC (.int 5)))) (eC (.int 2147483629)))) (eV 1))
def m__law_draw : SM := sSeq m__law_draw_1 (sSeq m__law_draw_2 (sSeq m__law_draw_3 (sSeq m__law_draw_6 (sSeq m__law_draw_9 m__law_draw_10))))
def F__law_draw : FN := bodyF 5 m__law_draw
def m__law_one_1 : SM := sRet (e2 ixV (eV 1) (eCall 2 F__law_draw (aC (eV 0) (aC (eA1 lenV (eV 1)) (aN)))))
def m__law_one : SM := m__law_one_1
def F__law_one : FN := bodyF 2 m__law_one
def cellsOb (cs : List Int) : Ob := .lst (cs.map fun i => SV.d (.int i))
def Deck (rest : Store) (n : Int) (S : Store) : Prop := ∃ (cs : List Int) (c : Int), S = cellsOb cs :: .lst [.obj 0, .d (.int c)] :: rest ∧ (∀ i ∈ cs, 0 ≤ i) ∧ 0 ≤ c ∧ c ≤ n
theorem Deck.mono {rest : Store} {n n' : Int} {S : Store} (h : Deck rest n S) (l : n ≤ n') : Deck rest n' S := by
  obtain ⟨cs, c, e, p, c0, c1⟩ := h
  exact ⟨cs, c, e, p, c0, by omega⟩
local macro_rules
  | `(tactic| walk_at "go") => `(tactic| simp only [sSeq, ssat_next, ssat_toS, ssat_nx, ssat_rt, ssat_bk, ssat_ct, ssat_bad, ssat_if, sat_ok, sat_bad, sat_exc, sat_bind, sat_if, sPutO, sAsg, fE, sIf, sNx, sRet, sDrop, sOwn, sApp, sExt, sPar, sFor, e1, e2, eV, eC, eA, eA1, aC, aN, eSl, oN, oS, eP, eM1, eIf, eCall, eJ, jC, jN, bB, bTr, bAnd, bOr, bNot, eAnd, eOr, eNot, bYes, iSeq, iA, ofG, ofO, gSet, ggNil, ggCons, ggTup, mkTup, mkLst, mkObj, asDs, asD, ownL,
      List.map_cons, List.map_nil, List.cons_append, List.nil_append, List.length_cons, List.length_nil, List.length_set, List.replicate, List.getElem?_cons_succ, List.getElem?_cons_zero, List.getElem?_nil, List.set_cons_succ, List.set_cons_zero, List.all_cons, List.all_nil, setAll, Option.map_some, Option.map_none, Option.bind_some, Option.bind_none,
      ixV, addV, subV, mulV, modV, divV, powV, negV, lenV, intV, absI, boolV, truthV, ltV, gtV, leV, geV, isV, isNone, L2.atI, ixN, Bool.false_xor, Bool.true_xor, Bool.not_true, Bool.not_false, Bool.and_true, Bool.true_and, Bool.and_false, Bool.false_and, decide_true, decide_false, decide_eq_true_eq, Bool.and_eq_true, if_true, if_false, reduceIte, ite_true, ite_false, true_and, and_true, Int.cast_ofNat_Int, Nat.reduceAdd, Nat.reduceSub, Nat.reduceLT, Int.reduceLT, Int.reduceLE, Int.reduceToNat, Nat.lt_add_one])
theorem draw_ok {rest : Store} {n many : Int} {S : Store} (D : Deck rest n S) (hn : n ≤ 1099511627776) (h0 : 0 < many) (h1 : many < 1073741824) :
    (F__law_draw [.obj 1, .d (.int many)] S).sat (fun v S' => ∃ k, v = .d (.int k) ∧ 0 ≤ k ∧ k < many ∧ Deck rest (n + 1) S') NoX := by
  obtain ⟨cs, c, rfl, pos, c0, c1⟩ := D
  unfold F__law_draw
  rw [sat_body]
  unfold m__law_draw
  have D1 : Deck rest (n + 1) (cellsOb cs :: .lst [.obj 0, .d (.int (c + 1))] :: rest) := ⟨cs, c + 1, rfl, pos, by omega, by omega⟩
  refine seq_sat (fun fr S => fr = [some (.obj 1), some (.d (.int many)), none, none, none] ∧ S = cellsOb cs :: .lst [.obj 0, .d (.int (c + 1))] :: rest) ?_ ?_
  · simp only [m__law_draw_1]
    walk_at "go"
  rintro _ _ ⟨rfl, rfl⟩
  refine seq_sat (fun fr S => fr = [some (.obj 1), some (.d (.int many)), some (.d (.int 0)), some (.d (.int (-1))), none] ∧ S = cellsOb cs :: .lst [.obj 0, .d (.int (c + 1))] :: rest) ?_ ?_
  · simp only [m__law_draw_2]
    walk_at "go"
    decide
  rintro _ _ ⟨rfl, rfl⟩
  refine seq_sat (fun fr S => ∃ cell at_ : Int, fr = [some (.obj 1), some (.d (.int many)), some (.d (.int cell)), some (.d (.int at_)), none] ∧ S = cellsOb cs :: .lst [.obj 0, .d (.int (c + 1))] :: rest ∧ 0 ≤ cell ∧ (0 < cell → 0 ≤ at_ ∧ at_ < cs.length)) ?_ ?_
  · simp only [m__law_draw_3, cellsOb]
    walk_at "go"
    rw [List.length_map]
    by_cases hc : 0 < (cs.length : Int)
    · rw [if_pos hc]
      simp only [m__law_draw_4]
      walk_at "go"
      rw [List.length_map]
      refine ⟨hc, ?_⟩
      have a0 : 0 ≤ (c + 1) % (cs.length : Int) := Int.emod_nonneg _ (by omega)
      have a1 : (c + 1) % (cs.length : Int) < cs.length := Int.emod_lt_of_pos _ hc
      simp only [m__law_draw_5, e2, eV, eC, ixV]
      walk_at "go"
      rw [List.length_map, if_pos a0, if_pos a1]
      walk_at "go"
      rw [List.getElem?_map, List.getElem?_eq_getElem (by omega)]
      walk_at "go"
      exact ⟨_, _, rfl, pos _ (List.getElem_mem _), fun _ => ⟨a0, a1⟩⟩
    · rw [if_neg hc, ssat_nx]
      exact ⟨0, -1, rfl, rfl, by omega, fun z => by omega⟩
  rintro _ _ ⟨cell, at_, rfl, rfl, p0, p1⟩
  refine seq_sat (fun fr S => fr = [some (.obj 1), some (.d (.int many)), some (.d (.int cell)), some (.d (.int at_)), none] ∧ S = cellsOb cs :: .lst [.obj 0, .d (.int (c + 1))] :: rest) ?_ ?_
  · simp only [m__law_draw_6]
    walk_at "go"
    refine ⟨by decide, ?_⟩
    by_cases hb : (10 : Int) ^ 18 ≤ cell
    · rw [if_pos hb]
      obtain ⟨a0, a1⟩ := p1 (by
        have : (0 : Int) < 10 ^ 18 := by decide
        omega)
      simp only [m__law_draw_7, cellsOb]
      walk_at "go"
      refine ⟨⟨h0, h1⟩, ?_⟩
      rw [List.length_map, if_pos a0, if_pos a1]
      simp only [m__law_draw_8]
      walk_at "go"
      refine ⟨h0, _, rfl, Int.emod_nonneg _ (by omega), Int.emod_lt_of_pos _ h0, cs.set at_.toNat (cell / many), c + 1, ?_, fun i hi => ?_, by omega, by omega⟩
      · unfold cellsOb
        rw [List.map_set]
      · rcases List.mem_or_eq_of_mem_set hi with q | q
        · exact pos i q
        · rw [q]
          exact Int.ediv_nonneg p0 (by omega)
    · rw [if_neg hb, ssat_nx]
      exact ⟨rfl, rfl⟩
  rintro _ _ ⟨rfl, rfl⟩
  refine seq_sat (fun fr S => ∃ mx : Int, fr = [some (.obj 1), some (.d (.int many)), some (.d (.int cell)), some (.d (.int at_)), some (.d (.int mx))] ∧ S = cellsOb cs :: .lst [.obj 0, .d (.int (c + 1))] :: rest ∧ mx.natAbs < 2 ^ 64) ?_ ?_
  · simp only [m__law_draw_9]
    walk_at "go"
    refine ⟨rfl, _, rfl, ?_⟩
    have q0 : 0 ≤ cell % 2147483563 := Int.emod_nonneg _ (by decide)
    have q1 : cell % 2147483563 < 2147483563 := Int.emod_lt_of_pos _ (by decide)
    omega
  rintro _ _ ⟨mx, rfl, rfl, hm⟩
  simp only [m__law_draw_10]
  walk_at "go"
  exact ⟨hm, h0, _, rfl, Int.emod_nonneg _ (by omega), Int.emod_lt_of_pos _ h0, D1⟩
theorem at_in {α : Type} {xs : List α} {k : Int} (h0 : 0 ≤ k) (h1 : k < xs.length) : ∃ x, x ∈ xs ∧ L2.atI xs k = some x := by
  refine ⟨xs[k.toNat]'(by omega), List.getElem_mem _, ?_⟩
  unfold L2.atI ixN
  rw [if_pos h0, if_pos h1]
  exact List.getElem?_eq_getElem (by omega)
theorem one_list {rest : Store} {n : Int} {S : Store} {ds : List PyData} (D : Deck rest n S) (hn : n ≤ 1099511627776) (h0 : ds ≠ []) (h1 : ds.length < 1073741824) :
    (F__law_one [.obj 1, .d (.list ds)] S).sat (fun v S' => ∃ d, d ∈ ds ∧ v = .d d ∧ Deck rest (n + 1) S') NoX := by
  unfold F__law_one
  rw [sat_body]
  simp only [m__law_one, m__law_one_1]
  walk_at "go"
  have hl : 0 < ds.length := List.length_pos_iff.mpr h0
  refine (draw_ok D hn (by omega) (by omega)).on fun v S' ⟨k, e, k0, k1, D'⟩ => ?_
  subst e
  obtain ⟨x, hx, e⟩ := at_in k0 k1
  simp only [L2.atI] at e
  show (match (ixN ds.length k).bind fun j => ds[j]? with | some d => Rs.ok (SV.d d) S' | none => Rs.bad).sat _ _
  rw [e]
  exact sat_of ⟨x, hx, rfl, D'⟩
theorem one_str {rest : Store} {n : Int} {S : Store} {z : Str} (D : Deck rest n S) (hn : n ≤ 1099511627776) (h0 : 0 < z.cps.size) (h1 : z.cps.size ≤ sizeLine) :
    (F__law_one [.obj 1, .d (.str z)] S).sat (fun v S' => ∃ c, c ∈ z.cps.toList ∧ v = .d (.str ⟨#[c]⟩) ∧ Deck rest (n + 1) S') NoX := by
  unfold F__law_one
  rw [sat_body]
  simp only [m__law_one, m__law_one_1]
  walk_at "go"
  have hz : z.length = z.cps.size := rfl
  have hl : z.length ≤ sizeLine := by rw [hz]; exact h1
  have hl2 : z.cps.toList.length = z.cps.size := by simp
  have hs : sizeLine = 16777216 := sizeLine_eq
  refine ⟨hl, (draw_ok D hn (by omega) (by omega)).on fun v S' ⟨k, e, k0, k1, D'⟩ => ?_⟩
  subst e
  obtain ⟨x, hx, e⟩ := at_in (xs := z.cps.toList) k0 (by rw [hl2, ← hz]; exact k1)
  simp only [L2.atI] at e
  show (match (ixN z.cps.toList.length k).bind fun j => z.cps.toList[j]? with | some c => if z.length ≤ sizeLine then Rs.ok (SV.d (.str ⟨#[c]⟩)) S' else .bad | none => Rs.bad).sat _ _
  rw [e]
  show (if z.length ≤ sizeLine then Rs.ok (SV.d (.str ⟨#[x]⟩)) S' else .bad).sat _ _
  rw [if_pos hl]
  exact sat_of ⟨x, hx, rfl, D'⟩
def absN (i : Int) : Int := if i < 0 then -i else i
theorem deck_ok (ns : List Int) (h : ns.length ≤ 63) : ∃ S, F__law_deck [.scr ns] [] = .ok (.obj 1) S ∧ Deck [] 0 S := by
  let cs : List Int := (cutI ns none (some 63)).map absN
  have hl : (cutI ns none (some 63)).length ≤ 63 := by
    unfold cutI
    rw [List.length_take, List.length_drop]
    omega
  have hc : compF (gSet 1) bYes (eA1 absI (eV 1)) [1] [some (.scr ns), none] (((cutI ns none (some 63)).map PyData.int).map SV.d) [] [] = .ok ([] ++ (((cutI ns none (some 63)).map PyData.int).map SV.d).map fun x => match x with
      | .d (.int i) => PyData.int (absN i)
      | _ => .none) [] := by
    refine comp_pure (fun x hx => ?_) (by
      rw [List.length_map, List.length_map]
      have : sizeLine = 16777216 := sizeLine_eq
      simp
      omega)
    rw [List.map_map, List.mem_map] at hx
    obtain ⟨i, _, rfl⟩ := hx
    exact ⟨_, rfl, rfl⟩
  rw [List.nil_append, List.map_map, List.map_map] at hc
  have e2 : (cutI ns none (some 63)).map (((fun x : SV => match x with
      | .d (.int i) => PyData.int (absN i)
      | _ => .none)) ∘ (SV.d ∘ PyData.int)) = cs.map PyData.int := by
    rw [List.map_map]
    rfl
  refine ⟨[cellsOb cs, .lst [.obj 0, .d (.int 0)]], ?_, cs, 0, rfl, fun i hi => ?_, by omega, by omega⟩
  · unfold F__law_deck bodyF
    have e1 : eLc (iSeq (eSl (eV 0) oN (oS (eC (.int 63))))) (gSet 1) bYes (eA1 absI (eV 1)) [1] [some (.scr ns), none] [] = .ok (.d (.list (cs.map .int))) [] := by
      show (compF (gSet 1) bYes (eA1 absI (eV 1)) [1] [some (.scr ns), none] (((cutI ns none (some 63)).map PyData.int).map SV.d) [] []).bind _ = _
      rw [List.map_map, hc, e2]
      rfl
    have e3 : m__law_deck [some (.scr ns), none] [] = .rt (.obj 1) [cellsOb cs, .lst [.obj 0, .d (.int 0)]] := by
      show (Rs.bind (Rs.bind (Rs.bind (eLc (iSeq (eSl (eV 0) oN (oS (eC (.int 63))))) (gSet 1) bYes (eA1 absI (eV 1)) [1] [some (.scr ns), none] []) _) _) _).toS _ _ = _
      rw [e1]
      show (mkObj [.obj 0, .d (.int 0)] [.lst ((cs.map PyData.int).map SV.d)]).toS _ _ = _
      unfold mkObj cellsOb
      rw [if_pos (by decide), List.map_map]
      rfl
    show (match m__law_deck [some (.scr ns), none] [] with | .rt v S' => Rs.ok v S' | .nx _ S' => .ok (.d .none) S' | .exc x _ S' => .exc x S' | _ => .bad) = _
    rw [e3]
  · obtain ⟨j, _, rfl⟩ := List.mem_map.mp hi
    unfold absN
    split <;> omega
end PD
namespace PD
open PySem PySem.Spec PyProof.Rows L2
def Tx (n : Nat) (s : Str) : Prop := s.length ≤ n ∧ ∀ c ∈ s.cps.toList, c < 1114112
theorem Tx.mono {n m : Nat} {s : Str} (h : Tx n s) (l : n ≤ m) : Tx m s := ⟨Nat.le_trans h.1 l, h.2⟩
theorem Tx.app {n m : Nat} {s t : Str} (h : Tx n s) (k : Tx m t) : Tx (n + m) (s ++ t) := by
  refine ⟨by rw [Str.length_append]; exact Nat.add_le_add h.1 k.1, fun c hc => ?_⟩
  rw [Str.cps_append, Array.toList_append, List.mem_append] at hc
  exact hc.elim (h.2 c) (k.2 c)
theorem Tx.nil {n : Nat} : Tx n Str.empty := ⟨Nat.zero_le _, fun c hc => by simp [Str.empty] at hc⟩
theorem Tx.one {n c : Nat} (h : c < 1114112) (hn : 1 ≤ n) : Tx n ⟨#[c]⟩ := ⟨hn, fun d hd => by simp at hd; omega⟩
theorem Tx.of (s : String) : Tx s.length (Str.ofString s) := by
  rw [Str.ofString_eq_toList]
  refine ⟨by simp [Str.length, String.length], fun c hc => ?_⟩
  obtain ⟨d, _, rfl⟩ := List.mem_map.mp (by simpa using hc)
  have : d.toNat < 1114112 := by
    have := d.valid
    unfold Char.toNat
    rcases this with h | ⟨_, h⟩ <;> omega
  omega
theorem Tx.lit {n : Nat} {s : String} (h : s.length ≤ n := by decide) : Tx n (Str.ofString s) := (Tx.of s).mono h
theorem Tx.num {k : Nat} {i : Int} (h : i.natAbs < 10 ^ k) (hk : 0 < k := by decide) : Tx (k + 1) (Str.ofString (toString i)) := (Tx.of _).mono (int_text_length_le10 hk h)
theorem Tx.join {n m k : Nat} {y : Str} (hy : Tx m y) : ∀ {ps : List Str}, (∀ p ∈ ps, Tx n p) → ps.length ≤ k → Tx (k * (n + m)) (Txt.join y ps) := by
  intro ps
  rw [TL.join_eq]
  induction ps generalizing k with
  | nil => exact fun _ _ => Tx.nil
  | cons p ps ih =>
    intro h hk
    obtain ⟨k, rfl⟩ : ∃ j, k = j + 1 := ⟨k - 1, by rw [List.length_cons] at hk; omega⟩
    have e : (k + 1) * (n + m) = (n + m) + k * (n + m) := by rw [Nat.succ_mul, Nat.add_comm]
    cases ps with
    | nil =>
      refine (h p List.mem_cons_self).mono ?_
      rw [e]
      omega
    | cons q ps =>
      have := ih (k := k) (fun r hr => h r (List.mem_cons_of_mem _ hr)) (by rw [List.length_cons] at hk; omega)
      show Tx _ (p ++ y ++ Str.join y (q :: ps))
      rw [e]
      exact ((h p List.mem_cons_self).app hy).app this
theorem Tx.repr {n : Nat} {s : Str} (h : Tx n s) : (reprText s).length ≤ 10 * n + 2 := by
  have := PySem.StrLaws.reprText_len s fun c hc => by have := h.2 c hc; omega
  have := h.1
  omega
theorem Tx.len {n : Nat} {s : Str} (h : Tx n s) : s.length ≤ n := h.1
theorem log2_small {i : Int} {k : Nat} (h : i.natAbs < 10 ^ k) (hk : k ≤ 400 := by decide) : i.natAbs.log2 < 1920 := by
  by_cases e : i.natAbs = 0
  · rw [e]
    decide
  · rw [Nat.log2_lt e]
    refine Nat.lt_of_lt_of_le h ?_
    calc 10 ^ k ≤ 10 ^ 400 := Nat.pow_le_pow_right (by decide) hk
      _ ≤ 2 ^ 1920 := by decide +kernel
theorem Tx.strOk {n : Nat} {s : Str} (h : Tx n s) : (PyData.str s).canLay0 = true := by
  unfold PyData.canLay0 PyData.strOk
  rw [← Array.all_toList, List.all_eq_true]
  exact fun c hc => by simpa using h.2 c hc
theorem eq_str {neg : Bool} {S : Store} {a b : Str} : eqV neg (.d (.str a)) (.d (.str b)) S = .ok (.d (.bool (neg ^^ decide (a = b)))) S := rfl
theorem eq_int {neg : Bool} {S : Store} {i j : Int} : eqV neg (.d (.int i)) (.d (.int j)) S = .ok (.d (.bool (neg ^^ (i == j)))) S := by
  show (if eqOk (.int i) (.int j) = true then Rs.ok (SV.d (.bool (neg ^^ PyData.eqv (.int i) (.int j)))) S else .bad) = _
  rw [if_pos (by rfl)]
  simp only [PyData.eqv]
theorem sat_eq {α : Type} {r : Rs α} {a : α} {S : Store} (h : r.sat (fun v S' => v = a ∧ S' = S) NoX) : r = .ok a S := by
  obtain ⟨v, S', e, rfl, rfl⟩ := h.ex
  exact e
theorem len_nil : Str.empty.length = 0 := rfl
theorem Paired.app {α β : Type} {R : α → β → Prop} : ∀ {xs : List α} {ys : List β} {xs' : List α} {ys' : List β}, Paired R xs ys → Paired R xs' ys' → Paired R (xs ++ xs') (ys ++ ys')
  | _, _, _, _, .nil, k => k
  | _, _, _, _, .cons h t, k => .cons h (Paired.app t k)
theorem strs_map : ∀ ts : List Str, strsOf (ts.map .str) = some ts
  | [] => rfl
  | t :: ts => by simp [strsOf, strs_map ts]
theorem join_ok {S : Store} {a : Str} {ts : List Str} {n m : Nat} (ha : Tx m a) (h : ∀ t ∈ ts, Tx n t) (hl : ts.length * (n + m) ≤ 16777216) : joinV (.d (.str a)) (.d (.list (ts.map .str))) S = .ok (.d (.str (Txt.join a ts))) S := by
  have e : (ts.map (·.length)).sum + ts.length * a.length ≤ 16777216 := by
    have q : (ts.map (·.length)).sum ≤ ts.length * n := by
      clear hl
      induction ts with
      | nil => simp
      | cons t ts ih =>
        have h1 := (h t List.mem_cons_self).1
        have h2 := ih fun t ht => h t (List.mem_cons_of_mem _ ht)
        rw [List.map_cons, List.sum_cons, List.length_cons, Nat.succ_mul]
        omega
    have r : ts.length * a.length ≤ ts.length * m := Nat.mul_le_mul_left _ ha.1
    rw [Nat.mul_add] at hl
    omega
  show (match strsOf (ts.map .str) with
    | some ys => if (ys.map fun t : Str => t.length).sum + ys.length * a.length ≤ 16777216 then Rs.ok (SV.d (.str (Txt.join a ys))) S else .bad
    | none => .bad) = _
  rw [strs_map]
  show (if (ts.map (·.length)).sum + ts.length * a.length ≤ 16777216 then Rs.ok (SV.d (.str (Txt.join a ts))) S else .bad) = _
  rw [if_pos e]
theorem Paired.mem {α β : Type} {R : α → β → Prop} {b : β} : ∀ {xs : List α} {ys : List β}, Paired R xs ys → b ∈ ys → ∃ a ∈ xs, R a b
  | _, _, .nil, h => by cases h
  | _, _, .cons r t, h => by
    rcases List.mem_cons.mp h with rfl | h
    · exact ⟨_, List.mem_cons_self, r⟩
    · obtain ⟨a, ha, q⟩ := Paired.mem t h
      exact ⟨a, List.mem_cons_of_mem _ ha, q⟩
end PD
namespace PD
open PySem PySem.Spec PyProof.Rows L2
theorem strs_of_all {P : Str → Prop} : ∀ {ds : List PyData}, (∀ d ∈ ds, ∃ s, d = .str s ∧ P s) → ∃ ts : List Str, ds = ts.map .str ∧ ∀ t ∈ ts, P t
  | [], _ => ⟨[], rfl, by simp⟩
  | d :: ds, h => by
    obtain ⟨s, rfl, p⟩ := h d List.mem_cons_self
    obtain ⟨ts, rfl, q⟩ := strs_of_all fun e he => h e (List.mem_cons_of_mem _ he)
    exact ⟨s :: ts, rfl, fun t ht => by
      rcases List.mem_cons.mp ht with rfl | ht
      · exact p
      · exact q t ht⟩
theorem rng_get {lo hi : Int} {k : Nat} {x : SV} (h : (rngL lo hi)[k]? = some x) : x = .d (.int (lo + (k : Nat))) ∧ lo + (k : Nat) < hi := by
  unfold rngL at h
  rw [List.getElem?_map] at h
  by_cases hk : k < (hi - lo).toNat
  · rw [List.getElem?_range hk] at h
    exact ⟨(Option.some.inj h).symm, by omega⟩
  · rw [List.getElem?_eq_none (by simpa using hk)] at h
    cases h
theorem rng_len {lo hi : Int} : (rngL lo hi).length = (hi - lo).toNat := by simp [rngL]
theorem rng1_ok {k : Int} {S : Store} (h0 : -1073741824 ≤ k) (h1 : k ≤ 1073741824) : rng1V [.d (.int k)] S = .ok (rngL 0 k) S := by
  have e : big62 k = true := by
    simp only [big62, Bool.and_eq_true, decide_eq_true_eq]
    omega
  show (if big62 k = true then Rs.ok (rngL 0 k) S else .bad) = _
  rw [if_pos e]
theorem ssat_rng {g : GM} {m : SM} {p : Po} {hi : Int} {fr : Fr} {S : Store} (I : Nat → Fr → Store → Prop) (h0 : I 0 fr S)
    (hs : ∀ (k : Nat) fr S, (k : Int) < hi → I k fr S → ∃ fr1, g (.d (.int (k : Nat))) fr = some fr1 ∧ (m fr1 S).sat ⟨I (k + 1), p.nx, I (k + 1), p.rt, p.ex⟩) (hf : ∀ fr S, I hi.toNat fr S → p.nx fr S) : (forF g m (rngL 0 hi) fr S).sat p := by
  refine ssat_for I 0 h0 (fun k x fr S e h => ?_) fun fr S h => hf fr S ?_
  · obtain ⟨rfl, l⟩ := rng_get e
    rw [Nat.zero_add] at h ⊢
    have := hs k fr S (by omega) h
    simpa using this
  · rw [rng_len, Nat.zero_add, Int.sub_zero] at h
    exact h
theorem sat_crng {g : GM} {te : EM} {vs : List Nat} {fr : Fr} {hi : Int} {S : Store} {Q : List PyData → Store → Prop} {X : Exc → Store → Prop} (I : Nat → Store → List PyData → Prop) (h0 : I 0 S [])
    (hs : ∀ (k : Nat) S acc, (k : Int) < hi → acc.length ≤ k → I k S acc → ∃ fr1, g (.d (.int (k : Nat))) (wipeF fr vs) = some fr1 ∧ (te fr1 S).sat (fun y S2 => ∃ d, y = .d d ∧ I (k + 1) S2 (acc ++ [d])) NoX) (hl : hi ≤ 1000000)
    (hf : ∀ S acc, acc.length ≤ hi.toNat → I hi.toNat S acc → Q acc S) : (compF g bYes te vs fr (rngL 0 hi) S []).sat Q X := by
  have sz : sizeLine = 16777216 := sizeLine_eq
  refine sat_comp (fun k S acc => acc.length ≤ k ∧ I k S acc) 0 ⟨Nat.le_refl _, h0⟩ (fun k x S acc e h => ?_) fun S acc h => ?_
  · obtain ⟨rfl, l⟩ := rng_get e
    rw [Nat.zero_add] at h ⊢
    obtain ⟨fr1, e1, h1⟩ := hs k S acc (by omega) h.1 h.2
    rw [Int.zero_add]
    refine ⟨fr1, e1, ?_⟩
    simp only [bYes, sat_ok, if_true]
    refine h1.on fun y S2 ⟨d, ey, h2⟩ => ⟨d, ey, ?_, ?_, h2⟩
    · have := h.1
      omega
    · have := h.1
      simp
      omega
  · rw [rng_len, Nat.zero_add, Int.sub_zero] at h
    exact hf S acc h.1 h.2
theorem Str1.len {c : Nat} : (⟨#[c]⟩ : Str).length = 1 := rfl
structure Sh (k n : Nat) (d : PyData) : Prop where
  ok : d.showable = true
  nd : d.hasDict = false
  dp : d.depth ≤ k
  ln : d.shown.length ≤ n
theorem Sh.mono {k k' n n' : Nat} {d : PyData} (h : Sh k n d) (a : k ≤ k') (b : n ≤ n') : Sh k' n' d := ⟨h.ok, h.nd, Nat.le_trans h.dp a, Nat.le_trans h.ln b⟩
theorem Sh.none {k n : Nat} (h : 4 ≤ n) : Sh k n .none := ⟨rfl, rfl, Nat.zero_le _, h⟩
theorem Sh.bool {k n : Nat} {b : Bool} (h : 5 ≤ n) : Sh k n (.bool b) := ⟨rfl, rfl, Nat.zero_le _, by cases b <;> (refine Nat.le_trans ?_ h; decide)⟩
theorem Sh.int {k m n : Nat} {i : Int} (h : i.natAbs < 10 ^ m) (hm : m ≤ 400) (h0 : 0 < m) (hn : m + 1 ≤ n) : Sh k n (.int i) :=
  ⟨by simp only [PyData.showable, decide_eq_true_eq]; exact log2_small h hm, rfl, Nat.zero_le _, Nat.le_trans (Tx.num h h0).len hn⟩
theorem Sh.str {k m n : Nat} {s : Str} (h : Tx m s) (hn : 10 * m + 2 ≤ n) : Sh k n (.str s) := ⟨rfl, rfl, Nat.zero_le _, Nat.le_trans h.repr hn⟩
theorem sh_all {k n : Nat} : ∀ {ds : List PyData}, (∀ d ∈ ds, Sh k n d) → PyData.showableAll ds = true ∧ PyData.hasDictAll ds = false ∧ PyData.depthAll ds ≤ k ∧ (∀ t ∈ PyData.shownAll ds, t.length ≤ n) ∧ (PyData.shownAll ds).length = ds.length
  | [], _ => ⟨rfl, rfl, Nat.zero_le _, by simp [PyData.shownAll], rfl⟩
  | d :: ds, h => by
    obtain ⟨a, b, c, e, f⟩ := sh_all fun x hx => h x (List.mem_cons_of_mem _ hx)
    have g := h d List.mem_cons_self
    refine ⟨?_, ?_, ?_, fun t ht => ?_, ?_⟩
    · simp only [PyData.showableAll, g.ok, a, Bool.and_self]
    · simp only [PyData.hasDictAll, g.nd, b, Bool.or_self]
    · simp only [PyData.depthAll]
      exact Nat.max_le.mpr ⟨g.dp, c⟩
    · simp only [PyData.shownAll, List.mem_cons] at ht
      rcases ht with rfl | ht
      · exact g.ln
      · exact e t ht
    · simp only [PyData.shownAll, List.length_cons, f]
theorem join_le {y : Str} {n : Nat} : ∀ {ts : List Str}, (∀ t ∈ ts, t.length ≤ n) → (Str.join y ts).length ≤ ts.length * (n + y.length)
  | [], _ => by simp [Str.join, Str.empty, Str.length]
  | [t], h => by
    have := h t List.mem_cons_self
    show t.length ≤ _
    simp
    omega
  | t :: u :: ts, h => by
    have h1 := h t List.mem_cons_self
    have h2 := join_le (y := y) (ts := u :: ts) fun x hx => h x (List.mem_cons_of_mem _ hx)
    show (t ++ y ++ Str.join y (u :: ts)).length ≤ _
    rw [Str.length_append, Str.length_append]
    have e : (t :: u :: ts).length * (n + y.length) = (n + y.length) + (u :: ts).length * (n + y.length) := by
      rw [List.length_cons, Nat.succ_mul, Nat.add_comm]
    rw [e]
    omega
theorem from_le {n : Nat} : ∀ {ts : List Str} {k : Nat} {acc : Str}, (∀ t ∈ ts, t.length ≤ n) → (textFrom k acc ts).length ≤ acc.length + ts.length * (n + 2)
  | [], _, acc, _ => by
    show acc.length ≤ _
    omega
  | t :: ts, k, acc, h => by
    have h1 := h t List.mem_cons_self
    have h2 := from_le (ts := ts) (k := k + 1) (acc := acc ++ (if k > 0 then ", " else "" : String) ++ t) fun x hx => h x (List.mem_cons_of_mem _ hx)
    have e : (Str.ofString (if k > 0 then ", " else "" : String)).length ≤ 2 := by
      by_cases q : k > 0
      · rw [if_pos q]
        decide
      · rw [if_neg q]
        decide
    rw [Str.length_append, Str.length_append] at h2
    show (textFrom (k + 1) (acc ++ (if k > 0 then ", " else "" : String) ++ t) ts).length ≤ _
    rw [List.length_cons, Nat.succ_mul]
    omega
theorem Sh.list {k n m : Nat} {ds : List PyData} (h : ∀ d ∈ ds, Sh k n d) (hl : ds.length ≤ m) : Sh (k + 1) (3 + m * (n + 2)) (.list ds) := by
  obtain ⟨a, b, c, e, f⟩ := sh_all h
  refine ⟨by simpa only [PyData.showable] using a, by simpa only [PyData.hasDict] using b, by simp only [PyData.depth]; omega, ?_⟩
  have j := from_le (k := 0) (acc := ("[" : Str)) e
  rw [f] at j
  have q : ds.length * (n + 2) ≤ m * (n + 2) := Nat.mul_le_mul_right _ hl
  show (textFrom 0 "[" (PyData.shownAll ds) ++ ("]" : Str)).length ≤ _
  have l1 : ("[" : Str).length = 1 := rfl
  have l2 : ("]" : Str).length = 1 := rfl
  rw [Str.length_append, l2]
  rw [l1] at j
  omega
theorem Sh.tuple {k n m : Nat} {ds : List PyData} (h : ∀ d ∈ ds, Sh k n d) (hl : ds.length ≤ m) : Sh (k + 1) (3 + m * (n + 2)) (.tuple ds) := by
  obtain ⟨a, b, c, e, f⟩ := sh_all h
  refine ⟨by simpa only [PyData.showable] using a, by simpa only [PyData.hasDict] using b, by simp only [PyData.depth]; omega, ?_⟩
  have j := join_le (y := ", ") e
  have l0 : (", " : Str).length = 2 := rfl
  rw [l0, f] at j
  have q : ds.length * (n + 2) ≤ m * (n + 2) := Nat.mul_le_mul_right _ hl
  show (("(" : Str) ++ Str.join ", " (PyData.shownAll ds) ++ (if (PyData.shownAll ds).length == 1 then ",)" else ")" : String)).length ≤ _
  have l1 : ("(" : Str).length = 1 := rfl
  have l2 : (Str.ofString (if (PyData.shownAll ds).length == 1 then ",)" else ")" : String)).length ≤ 2 := by
    by_cases q : ((PyData.shownAll ds).length == 1) = true
    · rw [if_pos q]
      decide
    · rw [if_neg q]
      decide
  rw [Str.length_append, Str.length_append, l1]
  omega
theorem cut_drop {ds : List PyData} {k : Nat} : PD.cutD ds (some (k : Int)) none = ds.drop k := by
  unfold PD.cutD
  rw [HT.sIx_none, HT.sIx_nat]
  by_cases h : k ≤ ds.length
  · rw [Nat.min_eq_left h, List.take_of_length_le (by rw [List.length_drop]; exact Nat.le_refl _)]
  · rw [Nat.min_eq_right (by omega), List.drop_eq_nil_of_le (Nat.le_refl _), List.drop_eq_nil_of_le (by omega)]
    simp
end PD
namespace PD
open PySem PySem.Spec PyProof.Rows L2
theorem map_of_all {α β : Type} {f : α → β} : ∀ {ds : List β}, (∀ d ∈ ds, ∃ p, d = f p) → ∃ qs : List α, ds = qs.map f
  | [], _ => ⟨[], rfl⟩
  | d :: ds, h => by
    obtain ⟨p, rfl⟩ := h d List.mem_cons_self
    obtain ⟨qs, rfl⟩ := map_of_all (ds := ds) fun x hx => h x (List.mem_cons_of_mem _ hx)
    exact ⟨p :: qs, rfl⟩
theorem ddup_len : ∀ ds : List PyData, (ddup ds).length ≤ ds.length
  | [] => Nat.le_refl _
  | d :: r => by
    unfold ddup
    have := ddup_len r
    split
    · rw [List.length_cons]; omega
    · rw [List.length_cons, List.length_cons]; omega
def Lw (n : Nat) (s : Str) : Prop := s.length ≤ n ∧ ∀ c ∈ s.cps.toList, 97 ≤ c ∧ c ≤ 122
theorem Lw.tx {n : Nat} {s : Str} (h : Lw n s) : Tx n s := ⟨h.1, fun c hc => by have := h.2 c hc; omega⟩
theorem Lw.app {n m : Nat} {s t : Str} (h : Lw n s) (k : Lw m t) : Lw (n + m) (s ++ t) := by
  refine ⟨by rw [Str.length_append]; exact Nat.add_le_add h.1 k.1, fun c hc => ?_⟩
  rw [Str.cps_append, Array.toList_append, List.mem_append] at hc
  exact hc.elim (h.2 c) (k.2 c)
theorem Lw.mono {n m : Nat} {s : Str} (h : Lw n s) (l : n ≤ m) : Lw m s := ⟨Nat.le_trans h.1 l, h.2⟩
theorem Lw.one {c : Nat} (h : 97 ≤ c ∧ c ≤ 122) : Lw 1 ⟨#[c]⟩ := ⟨Nat.le_refl _, fun d hd => by simp at hd; rw [hd]; exact h⟩
theorem Lw.nil {n : Nat} : Lw n Str.empty := ⟨Nat.zero_le _, fun c hc => by simp [Str.empty] at hc⟩
theorem Lw.join0 : ∀ {ps : List Str} {k : Nat}, (∀ p ∈ ps, Lw 1 p) → ps.length ≤ k → Lw k (Txt.join "" ps) := by
  intro ps
  rw [TL.join_eq]
  induction ps with
  | nil => exact fun _ _ => Lw.nil
  | cons p ps ih =>
    intro k h hk
    obtain ⟨k, rfl⟩ : ∃ j, k = j + 1 := ⟨k - 1, by rw [List.length_cons] at hk; omega⟩
    cases ps with
    | nil => exact (h p List.mem_cons_self).mono (by omega)
    | cons q ps =>
      have := ih (k := k) (fun r hr => h r (List.mem_cons_of_mem _ hr)) (by rw [List.length_cons] at hk; omega)
      show Lw _ (p ++ "" ++ Str.join "" (q :: ps))
      have e : (p ++ Str.ofString "" : Str) = p := Str.append_empty p
      rw [e, Nat.add_comm]
      exact (h p List.mem_cons_self).app this
theorem abc_lw : ∀ c ∈ (Str.ofString "abcdefghijklmnopqrstuvwxyz").cps.toList, 97 ≤ c ∧ c ≤ 122 := by decide +kernel
def Sn (s : Str) : Prop := Lw 8 s ∧ 0 < s.length
theorem Sn.tx {s : Str} (h : Sn s) : Tx 8 s := h.1.tx
end PD
namespace PD
open PySem PySem.Spec PyProof.Rows L2
theorem comp_map {α : Type} {enc : α → PyData} {g : GM} {te : EM} {vs : List Nat} {fr : Fr} {S : Store} {f : α → PyData} : ∀ {ys : List α} {acc : List PyData}, (∀ y ∈ ys, ∃ fr1, g (.d (enc y)) (wipeF fr vs) = some fr1 ∧ te fr1 S = .ok (.d (f y)) S) → acc.length + ys.length ≤ sizeLine →
    compF g bYes te vs fr ((ys.map enc).map .d) S acc = .ok (acc ++ ys.map f) S
  | [], acc, _, _ => by simp [compF]
  | y :: ys, acc, h, hl => by
    obtain ⟨fr1, e, h1⟩ := h y List.mem_cons_self
    rw [List.length_cons] at hl
    have e1 : compF g bYes te vs fr (((y :: ys).map enc).map .d) S acc = compF g bYes te vs fr ((ys.map enc).map .d) S (acc ++ [f y]) := by
      simp only [List.map_cons, compF, e, bYes, noX, Rs.bind, h1, if_true, if_pos (show acc.length < sizeLine by omega)]
    rw [e1, comp_map (fun z hz => h z (List.mem_cons_of_mem _ hz)) (by simp; omega)]
    simp
theorem comp_mapf {α : Type} {enc : α → PyData} {g : GM} {tt : TMt} {te : EM} {vs : List Nat} {fr : Fr} {S : Store} {b : α → Bool} {f : α → PyData} : ∀ {ys : List α} {acc : List PyData}, (∀ y ∈ ys, ∃ fr1, g (.d (enc y)) (wipeF fr vs) = some fr1 ∧ tt fr1 S = .ok (b y) S ∧ (b y = true → te fr1 S = .ok (.d (f y)) S)) → acc.length + ys.length ≤ sizeLine →
    compF g tt te vs fr ((ys.map enc).map .d) S acc = .ok (acc ++ (ys.filter b).map f) S
  | [], acc, _, _ => by simp [compF]
  | y :: ys, acc, h, hl => by
    obtain ⟨fr1, e, h1, h2⟩ := h y List.mem_cons_self
    rw [List.length_cons] at hl
    have ih := fun acc' (hl' : acc'.length + ys.length ≤ sizeLine) => comp_mapf (enc := enc) (g := g) (tt := tt) (te := te) (vs := vs) (fr := fr) (S := S) (b := b) (f := f) (ys := ys) (acc := acc') (fun z hz => h z (List.mem_cons_of_mem _ hz)) hl'
    rw [List.map_cons, List.map_cons]
    simp only [compF, e, h1, noX, Rs.bind]
    cases hb : b y with
    | true =>
      rw [if_pos rfl, h2 hb]
      simp only [Rs.bind]
      rw [if_pos (by omega), ih _ (by simp; omega), List.filter_cons_of_pos hb]
      simp
    | false =>
      rw [if_neg (by simp), ih _ (by omega), List.filter_cons_of_neg (by simp [hb])]
theorem intsOf_map : ∀ ns : List Int, intsOf (ns.map .int) = some ns
  | [] => rfl
  | n :: ns => by simp [intsOf, intsOf_map ns]
theorem sum_ok {S : Store} {ns : List Int} : sumV [.d (.list (ns.map .int))] S = .ok (.d (.int ns.sum)) S := by
  simp only [sumV, intsOf_map]
theorem ssat_while {c : TMt} {m : SM} {p : Po} (I : Nat → Fr → Store → Prop)
    (step : ∀ k fr S, I k fr S → (c fr S).sat (fun b S1 => if b = true then (m fr S1).sat ⟨fun fr S => ∃ j, j < k ∧ I j fr S, p.nx, fun fr S => ∃ j, j < k ∧ I j fr S, p.rt, p.ex⟩ else p.nx fr S1) p.ex) :
    ∀ (n fuel : Nat) {fr : Fr} {S : Store}, n < fuel → I n fr S → (whileF c m fuel fr S).sat p
  | n, 0, fr, S, h, _ => by omega
  | n, fuel + 1, fr, S, h, hi => by
    have hs := step n fr S hi
    have go : ∀ fr2 S2, (∃ j, j < n ∧ I j fr2 S2) → (whileF c m fuel fr2 S2).sat p := fun fr2 S2 ⟨j, hj, h2⟩ => ssat_while I step j fuel (by omega) h2
    unfold whileF
    rw [ssat_toS]
    refine hs.mono (fun b S1 hb => ?_) fun _ _ z => z
    cases b with
    | false => rw [if_neg Bool.false_ne_true] at hb ⊢; rw [ssat_nx]; exact hb
    | true =>
      rw [if_pos rfl] at hb ⊢
      cases q : m fr S1 with
      | nx fr2 S2 =>
        rw [q, ssat_nx] at hb
        exact go fr2 S2 hb
      | ct fr2 S2 =>
        rw [q, ssat_ct] at hb
        exact go fr2 S2 hb
      | bk fr2 S2 =>
        rw [q, ssat_bk] at hb
        show (SR.nx fr2 S2).sat p
        rw [ssat_nx]
        exact hb
      | rt v S2 =>
        rw [q, ssat_rt] at hb
        show (SR.rt v S2).sat p
        rw [ssat_rt]
        exact hb
      | exc x fr2 S2 =>
        rw [q, ssat_exc] at hb
        show (SR.exc x fr2 S2).sat p
        rw [ssat_exc]
        exact hb
      | bad =>
        rw [q, ssat_bad] at hb
        exact hb.elim
theorem ixT0 {S : Store} {x : PyData} {xs : List PyData} : ixV (.d (.tuple (x :: xs))) (.d (.int 0)) S = .ok (.d x) S := by
  simp [ixV, L2.atI, ixN]
theorem ixT1 {S : Store} {x y : PyData} {xs : List PyData} : ixV (.d (.tuple (x :: y :: xs))) (.d (.int 1)) S = .ok (.d y) S := by
  have e : L2.atI (x :: y :: xs) 1 = some y := by
    unfold L2.atI ixN
    rw [if_pos (by decide), if_pos (by simp; omega)]
    rfl
  simp only [ixV, e]
theorem ixT2 {S : Store} {x y z : PyData} {xs : List PyData} : ixV (.d (.tuple (x :: y :: z :: xs))) (.d (.int 2)) S = .ok (.d z) S := by
  have e : L2.atI (x :: y :: z :: xs) 2 = some z := by
    unfold L2.atI ixN
    rw [if_pos (by decide), if_pos (by simp; omega)]
    rfl
  simp only [ixV, e]
theorem ixL0 {S : Store} {x : PyData} {xs : List PyData} : ixV (.d (.list (x :: xs))) (.d (.int 0)) S = .ok (.d x) S := by
  simp [ixV, L2.atI, ixN]
theorem ixL1 {S : Store} {x y : PyData} {xs : List PyData} : ixV (.d (.list (x :: y :: xs))) (.d (.int 1)) S = .ok (.d y) S := by
  have e : L2.atI (x :: y :: xs) 1 = some y := by
    unfold L2.atI ixN
    rw [if_pos (by decide), if_pos (by simp; omega)]
    rfl
  simp only [ixV, e]
theorem ixL2 {S : Store} {x y z : PyData} {xs : List PyData} : ixV (.d (.list (x :: y :: z :: xs))) (.d (.int 2)) S = .ok (.d z) S := by
  have e : L2.atI (x :: y :: z :: xs) 2 = some z := by
    unfold L2.atI ixN
    rw [if_pos (by decide), if_pos (by simp; omega)]
    rfl
  simp only [ixV, e]
theorem ix_map {α : Type} [Inhabited α] {enc : α → PyData} {S : Store} {xs : List α} {k : Int} (h0 : 0 ≤ k) (h1 : k < xs.length) : ixV (.d (.list (xs.map enc))) (.d (.int k)) S = .ok (.d (enc (xs.getD k.toNat default))) S := by
  have e : L2.atI (xs.map enc) k = some (enc (xs.getD k.toNat default)) := by
    unfold L2.atI ixN
    rw [if_pos h0, if_pos (by simpa using h1), Option.bind_some, List.getElem?_map, List.getD_eq_getElem?_getD, List.getElem?_eq_getElem (by omega)]
    rfl
  simp only [ixV, e]
theorem ix_mapT {α : Type} [Inhabited α] {enc : α → PyData} {S : Store} {xs : List α} {k : Int} (h0 : 0 ≤ k) (h1 : k < xs.length) : ixV (.d (.tuple (xs.map enc))) (.d (.int k)) S = .ok (.d (enc (xs.getD k.toNat default))) S := by
  have e : L2.atI (xs.map enc) k = some (enc (xs.getD k.toNat default)) := by
    unfold L2.atI ixN
    rw [if_pos h0, if_pos (by simpa using h1), Option.bind_some, List.getElem?_map, List.getD_eq_getElem?_getD, List.getElem?_eq_getElem (by omega)]
    rfl
  simp only [ixV, e]
theorem getD_mem {α : Type} [Inhabited α] {xs : List α} {k : Nat} (h : k < xs.length) : xs.getD k default ∈ xs := by
  rw [List.getD_eq_getElem?_getD, List.getElem?_eq_getElem h]
  exact List.getElem_mem h
theorem ssat_mid {r : SR} {p : Po} (mid : Fr → Store → Prop) (h : r.sat { p with nx := mid }) (k : ∀ fr S, mid fr S → p.nx fr S) : r.sat p :=
  h.mono k (fun _ _ h => h) (fun _ _ h => h) (fun _ _ h => h) fun _ _ h => h
theorem eq_nilL0 {neg : Bool} {S : Store} {ds : List PyData} : eqV neg (.d (.list ds)) (.d (.list [])) S = .ok (.d (.bool (neg ^^ ds.isEmpty))) S := by
  show (if eqOk (.list ds) (.list []) = true then Rs.ok (SV.d (.bool (neg ^^ PyData.eqv (.list ds) (.list [])))) S else .bad) = _
  have e2 : PyData.eqv (.list ds) (.list []) = ds.isEmpty := by
    cases ds <;> simp [PyData.eqv, PyData.eqvAll]
  have e1 : eqOk (.list ds) (.list []) = true := by
    cases ds with
    | nil => rfl
    | cons d ds => simp [eqOk, lstDiff]
  rw [if_pos e1, e2]
theorem ix_last {S : Store} {ds : List PyData} {x : PyData} : ixV (.d (.list (ds ++ [x]))) (.d (.int (-1))) S = .ok (.d x) S := by
  have e : L2.atI (ds ++ [x]) (-1) = some x := by
    unfold L2.atI ixN
    rw [if_neg (by decide), if_pos (by simp; omega)]
    have : (-1 + ((ds ++ [x]).length : Int)).toNat = ds.length := by simp; omega
    simp only [Option.bind_some, this]
    simp
  simp only [ixV, e]
structure Kd (ps : List (Str × Int)) : Prop where
  sn : ∀ p ∈ ps, Sn p.1
  rg : ∀ p ∈ ps, 0 ≤ p.2 ∧ p.2 ≤ 2
  end_ : ∃ p ∈ ps, p.2 = 0
  len : ps.length ≤ 1000
inductive Maze where
  | mk (s : Str) (bs : List Maze)
namespace Maze
instance : Inhabited Maze := ⟨.mk Str.empty []⟩
def sign : Maze → Str
  | .mk s _ => s
def brs : Maze → List Maze
  | .mk _ bs => bs
mutual
def d : Maze → PyData
  | .mk s bs => .tuple [.str s, .tuple (ds bs)]
def ds : List Maze → List PyData
  | [] => []
  | m :: r => d m :: ds r
end
mutual
def size : Maze → Nat
  | .mk _ bs => 1 + sizes bs
def sizes : List Maze → Nat
  | [] => 0
  | m :: r => size m + sizes r
end
mutual
def Wf : Maze → Prop
  | .mk s bs => Sn s ∧ bs.length ≤ 2 ∧ Wfs bs
def Wfs : List Maze → Prop
  | [] => True
  | m :: r => Wf m ∧ Wfs r
end
theorem wfs_all : ∀ {bs : List Maze}, Wfs bs ↔ ∀ m ∈ bs, Wf m
  | [] => by simp [Wfs]
  | m :: r => by rw [Wfs, wfs_all]; simp
theorem size_pos : ∀ m : Maze, 0 < m.size
  | .mk s bs => by rw [size]; omega
theorem Wf.mem {s : Str} {bs : List Maze} (h : Wf (.mk s bs)) {m : Maze} (hm : m ∈ bs) : Wf m := by
  rw [Wf] at h
  exact wfs_all.mp h.2.2 m hm
theorem Wf.sn {s : Str} {bs : List Maze} (h : Wf (.mk s bs)) : Sn s := by rw [Wf] at h; exact h.1
theorem Wf.two {s : Str} {bs : List Maze} (h : Wf (.mk s bs)) : bs.length ≤ 2 := by rw [Wf] at h; exact h.2.1
mutual
def Of (ps : List (Str × Int)) : Maze → Prop
  | .mk s bs => (s, (bs.length : Int)) ∈ ps ∧ Ofs ps bs
def Ofs (ps : List (Str × Int)) : List Maze → Prop
  | [] => True
  | m :: r => Of ps m ∧ Ofs ps r
end
mutual
theorem Of.wf {ps : List (Str × Int)} (k : Kd ps) : ∀ {m : Maze}, Of ps m → Wf m
  | .mk s bs, h => by
    rw [Of] at h
    rw [Wf]
    have := (k.rg _ h.1).2
    exact ⟨k.sn _ h.1, by simp only at this; omega, Ofs.wfs k h.2⟩
theorem Ofs.wfs {ps : List (Str × Int)} (k : Kd ps) : ∀ {bs : List Maze}, Ofs ps bs → Wfs bs
  | [], _ => by simp [Wfs]
  | m :: r, h => by
    rw [Ofs] at h
    rw [Wfs]
    exact ⟨Of.wf k h.1, Ofs.wfs k h.2⟩
end
mutual
def text : Maze → Str
  | .mk s bs => if bs.isEmpty = true then s else s ++ "(" ++ Txt.join ", " (texts bs) ++ ")"
def texts : List Maze → List Str
  | [] => []
  | m :: r => text m :: texts r
end
mutual
def rooms (p : List Int) : Maze → List (List Int × Maze)
  | .mk s bs => (p, .mk s bs) :: roomsL p 1 bs
def roomsL (p : List Int) (k : Int) : List Maze → List (List Int × Maze)
  | [] => []
  | m :: r => rooms (p ++ [k]) m ++ roomsL p (k + 1) r
end
def doorsL (p : List Int) (k : Int) : List Maze → List (List Int × Maze)
  | [] => []
  | m :: r => (p ++ [k], m) :: doorsL p (k + 1) r
theorem rooms_doors (p : List Int) : ∀ (k : Int) (bs : List Maze), roomsL p k bs = (doorsL p k bs).flatMap fun q => rooms q.1 q.2
  | k, [] => by simp [roomsL, doorsL]
  | k, m :: r => by rw [roomsL, rooms_doors p (k + 1) r]; simp [doorsL]
mutual
theorem rooms_len (p : List Int) : ∀ m : Maze, (rooms p m).length = m.size
  | .mk s bs => by rw [rooms, List.length_cons, roomsL_len, size]; omega
theorem roomsL_len (p : List Int) : ∀ (k : Int) (bs : List Maze), (roomsL p k bs).length = sizes bs
  | k, [] => by simp [roomsL, sizes]
  | k, m :: r => by rw [roomsL, List.length_append, rooms_len _ m, roomsL_len p (k + 1) r, sizes]
end
end Maze
end PD
namespace PD
open PySem PySem.Spec PyProof.Rows L2
namespace Maze
mutual
def key : Maze → PyData
  | .mk s bs => .tuple [.int (1 + sizes bs : Nat), .str s, .int bs.length, .tuple (keys bs)]
def keys : List Maze → List PyData
  | [] => []
  | m :: r => key m :: keys r
end
def at? : Maze → List Int → Option Maze
  | m, [] => some m
  | .mk _ bs, k :: p => if 1 ≤ k ∧ k ≤ bs.length then (bs[(k - 1).toNat]?).bind fun m => at? m p else none
termination_by _ p => p.length
def put : Maze → List Int → Maze → Maze
  | _, [], b => b
  | .mk s bs, k :: p, b => .mk s (bs.set (k - 1).toNat (put (bs.getD (k - 1).toNat default) p b))
termination_by _ p _ => p.length
theorem at_nil (m : Maze) : at? m [] = some m := by rw [at?]
theorem at_cons (s : Str) (bs : List Maze) (k : Int) (p : List Int) : at? (.mk s bs) (k :: p) = if 1 ≤ k ∧ k ≤ bs.length then (bs[(k - 1).toNat]?).bind fun m => at? m p else none := by rw [at?]
theorem at_some {s : Str} {bs : List Maze} {k : Int} {p : List Int} {r : Maze} (h : at? (.mk s bs) (k :: p) = some r) : ∃ m, 1 ≤ k ∧ k ≤ bs.length ∧ bs[(k - 1).toNat]? = some m ∧ at? m p = some r := by
  rw [at_cons] at h
  by_cases hk : 1 ≤ k ∧ k ≤ bs.length
  · rw [if_pos hk] at h
    obtain ⟨m, e1, e2⟩ := Option.bind_eq_some_iff.mp h
    exact ⟨m, hk.1, hk.2, e1, e2⟩
  · rw [if_neg hk] at h
    cases h
mutual
theorem rooms_at : ∀ (p : List Int) (m : Maze), ∀ q ∈ rooms p m, ∃ r, q.1 = p ++ r ∧ at? m r = some q.2
  | p, .mk s bs, q, hq => by
    rw [rooms] at hq
    rcases List.mem_cons.mp hq with rfl | hq
    · exact ⟨[], by simp, at_nil _⟩
    · obtain ⟨i, m, r, e1, e2, e3⟩ := roomsL_at p 1 bs q hq
      refine ⟨(((i : Nat) : Int) + 1) :: r, by rw [e1, Int.add_comm]; simp, ?_⟩
      have := (List.getElem?_eq_some_iff.mp e2).1
      rw [at_cons, if_pos (by omega), show (((i : Nat) : Int) + 1 - 1).toNat = i by omega, e2]
      exact e3
theorem roomsL_at : ∀ (p : List Int) (k : Int) (bs : List Maze), ∀ q ∈ roomsL p k bs, ∃ (i : Nat) (m : Maze) (r : List Int), q.1 = p ++ [k + i] ++ r ∧ bs[i]? = some m ∧ at? m r = some q.2
  | p, k, [], q, hq => by rw [roomsL] at hq; cases hq
  | p, k, m :: rest, q, hq => by
    rw [roomsL] at hq
    rcases List.mem_append.mp hq with hq | hq
    · obtain ⟨r, e1, e2⟩ := rooms_at (p ++ [k]) m q hq
      exact ⟨0, m, r, by rw [e1]; simp, rfl, e2⟩
    · obtain ⟨i, m', r, e1, e2, e3⟩ := roomsL_at p (k + 1) rest q hq
      exact ⟨i + 1, m', r, by rw [e1]; simp; omega, by simpa using e2, e3⟩
end
end Maze
end PD
namespace PD
open PySem PySem.Spec PyProof.Rows L2
def dmap {α : Type} (enc : α → PyData) (ys : List (α × PyData)) : List (PyData × PyData) := ys.map fun y => (enc y.1, y.2)
structure Enc {α : Type} (enc : α → PyData) : Prop where
  tup : ∀ a, isTup (enc a) = true
  key : ∀ a, keyT (enc a) = true
  inj : ∀ a b, toKey (enc a) = toKey (enc b) → a = b
section
variable {α : Type} {enc : α → PyData}
theorem dget_map [DecidableEq α] (E : Enc enc) (x : α) : ∀ ys : List (α × PyData), dget (dmap enc ys) (enc x) = (ys.find? fun y => decide (y.1 = x)).map (·.2)
  | [] => rfl
  | y :: ys => by
    have ih := dget_map E x ys
    unfold dget dmap at ih ⊢
    rw [List.map_cons, List.find?_cons, List.find?_cons]
    by_cases q : y.1 = x
    · rw [show decide (toKey (enc y.1, y.2).1 = toKey (enc x)) = true by simp [q], show decide (y.1 = x) = true by simp [q]]
      rfl
    · rw [show decide (toKey (enc y.1, y.2).1 = toKey (enc x)) = false by
        simp only [decide_eq_false_iff_not]
        exact fun z => q (E.inj _ _ z), show decide (y.1 = x) = false by simp [q]]
      exact ih
theorem tupKeys_map (E : Enc enc) (ys : List (α × PyData)) : tupKeys (dmap enc ys) = true := by
  unfold tupKeys dmap
  rw [List.all_eq_true]
  intro p hp
  obtain ⟨y, _, rfl⟩ := List.mem_map.mp hp
  exact E.tup _
theorem dput_new [DecidableEq α] (E : Enc enc) {x : α} {v : PyData} {ys : List (α × PyData)} (h : ∀ y ∈ ys, y.1 ≠ x) : dput (dmap enc ys) (enc x) v = dmap enc (ys ++ [(x, v)]) := by
  unfold dput
  rw [dget_map E, List.find?_eq_none.mpr (fun y hy => by simpa using h y hy)]
  rw [if_neg (by simp)]
  unfold dmap
  rw [List.map_append]
  rfl
theorem in_dict [DecidableEq α] (E : Enc enc) {neg : Bool} {S : Store} {x : α} {ys : List (α × PyData)} : inDV neg (.d (enc x)) (.d (.dict (dmap enc ys))) S = .ok (.d (.bool (neg ^^ decide (x ∈ ys.map (·.1))))) S := by
  show (if (keyT (enc x) && tupKeys (dmap enc ys)) = true then Rs.ok (SV.d (.bool (neg ^^ (dget (dmap enc ys) (enc x)).isSome))) S else .bad) = _
  rw [if_pos (by rw [E.key, tupKeys_map E]; rfl), dget_map E]
  congr 5
  rw [Option.isSome_map]
  rw [Bool.eq_iff_iff, List.find?_isSome, decide_eq_true_eq, List.mem_map]
  constructor
  · rintro ⟨y, hy, e⟩
    exact ⟨y, hy, by simpa using e⟩
  · rintro ⟨y, hy, e⟩
    exact ⟨y, hy, by simpa using e⟩
theorem ix_dict1 [DecidableEq α] (E : Enc enc) {S : Store} {x : α} {v : PyData} {ys : List (α × PyData)} (h : (ys.find? fun y => decide (y.1 = x)).map (·.2) = some v) : ixDV (.d (.dict (dmap enc ys))) (.d (enc x)) S = .ok (.d v) S := by
  show (if (keyT (enc x) && tupKeys (dmap enc ys)) = true then (match dget (dmap enc ys) (enc x) with
    | some d => Rs.ok (SV.d d) S
    | none => .bad) else .bad) = _
  rw [if_pos (by rw [E.key, tupKeys_map E]; rfl), dget_map E, h]
end
def k2 (x : Int × Int) : PyData := .tuple [.int x.1, .int x.2]
theorem k2_enc : Enc k2 := ⟨fun _ => rfl, fun x => by simp [k2, keyT, isTup, toKey, toKeys, NestedKey.depth, NestedKey.depthAll], fun x y h => by
  simp only [k2, toKey, toKeys, Option.bind_some, Option.map_some, Option.some.injEq, NestedKey.tup.injEq, List.cons.injEq, NestedKey.num.injEq, and_true] at h
  exact Prod.ext h.1 h.2⟩
theorem nodup_lt : ∀ (N : Nat) {l : List Nat}, l.Nodup → (∀ x ∈ l, x < N) → l.length ≤ N
  | 0, l, _, h => by
    cases l with
    | nil => exact Nat.le_refl _
    | cons x l => exact absurd (h x List.mem_cons_self) (by omega)
  | N + 1, l, nd, h => by
    by_cases m : N ∈ l
    · have := nodup_lt N (nd.erase N) fun x hx => by
        have h1 := h x (List.mem_of_mem_erase hx)
        have h2 : x ≠ N := fun e => by
          subst e
          exact (List.Nodup.not_mem_erase nd) hx
        omega
      rw [List.length_erase_of_mem m] at this
      omega
    · have := nodup_lt N nd fun x hx => by
        have h1 := h x hx
        have h2 : x ≠ N := fun e => m (by rw [← e]; exact hx)
        omega
      omega
theorem nodup_pairs {D n : Nat} {l : List (Int × Int)} (nd : l.Nodup) (h : ∀ x ∈ l, 0 ≤ x.1 ∧ x.1 < D ∧ 0 ≤ x.2 ∧ x.2 < n) : l.length ≤ D * n := by
  have e : (l.map fun x => x.1.toNat * n + x.2.toNat).Nodup := by
    unfold List.Nodup at nd ⊢
    rw [List.pairwise_map]
    refine List.Pairwise.imp_of_mem ?_ nd
    intro a b ha hb ne e
    apply ne
    obtain ⟨a0, a1, a2, a3⟩ := h a ha
    obtain ⟨b0, b1, b2, b3⟩ := h b hb
    have f1 : a.2.toNat < n := by omega
    have f2 : b.2.toNat < n := by omega
    have e1 : a.1.toNat = b.1.toNat := by
      have e' : a.1.toNat * n + a.2.toNat = b.1.toNat * n + b.2.toNat := e
      have : (a.1.toNat * n + a.2.toNat) / n = (b.1.toNat * n + b.2.toNat) / n := by rw [e']
      have hn : 0 < n := by omega
      rw [Nat.mul_comm, Nat.mul_add_div hn, Nat.div_eq_of_lt f1, Nat.mul_comm, Nat.mul_add_div hn, Nat.div_eq_of_lt f2] at this
      omega
    rw [e1] at e
    have e2 : a.2.toNat = b.2.toNat := by omega
    exact Prod.ext (by omega) (by omega)
  have := nodup_lt (D * n) e fun x hx => by
    obtain ⟨y, hy, rfl⟩ := List.mem_map.mp hx
    obtain ⟨a0, a1, a2, a3⟩ := h y hy
    have f1 : y.1.toNat < D := by omega
    have f2 : y.2.toNat < n := by omega
    have : y.1.toNat * n + n ≤ D * n := by
      have := Nat.mul_le_mul_right n (show y.1.toNat + 1 ≤ D from f1)
      rw [Nat.succ_mul] at this
      exact this
    omega
  rw [List.length_map] at this
  exact this
theorem map_of_all2 {α β : Type} {f : α → β} {P : α → Prop} : ∀ {ds : List β}, (∀ d ∈ ds, ∃ p, d = f p ∧ P p) → ∃ qs : List α, ds = qs.map f ∧ ∀ q ∈ qs, P q
  | [], _ => ⟨[], rfl, by simp⟩
  | d :: ds, h => by
    obtain ⟨p, rfl, hp⟩ := h d List.mem_cons_self
    obtain ⟨qs, rfl, hq⟩ := map_of_all2 (f := f) (P := P) fun d hd => h d (List.mem_cons_of_mem _ hd)
    exact ⟨p :: qs, rfl, fun q hq' => by
      rcases List.mem_cons.mp hq' with rfl | e
      · exact hp
      · exact hq q e⟩
inductive Deed where
  | stop (w : Str)
  | go (a b : Int)
def Deed.d : Deed → PyData
  | .stop w => .tuple [.str "stop", .str w]
  | .go a b => .tuple [.str "go", .int a, .int b]
def optS : Option Str → PyData
  | none => .none
  | some s => .str s
def optI : Option Int → PyData
  | none => .none
  | some s => .int s
def optN : Option Nat → PyData
  | none => .none
  | some s => .int (s : Nat)
structure Rl where
  sg : Option Str
  dr : Option Int
  dd : Deed
instance : Inhabited Rl := ⟨⟨none, none, .stop "lost"⟩⟩
def Rl.d (r : Rl) : PyData := .tuple [optS r.sg, optI r.dr, r.dd.d]
def stD (rs : List Rl) : PyData := .tuple (rs.map Rl.d)
abbrev Rob := List (List Rl)
def robD (R : Rob) : PyData := .tuple (R.map stD)
def fitS : Option Str → Str → Bool
  | none, _ => true
  | some t, s => decide (t = s)
def fitD : Option Int → Int → Bool
  | none, _ => true
  | some k, q => decide (k = q)
def Rl.fits (s : Str) (q : Int) (r : Rl) : Bool := fitS r.sg s && fitD r.dr q
def ruleOf (rs : List Rl) (s : Str) (q : Int) : Option Nat := rs.findIdx? (Rl.fits s q)
def deedOf (rs : List Rl) : Option Nat → Deed
  | none => .stop "lost"
  | some i => (rs.getD i default).dd
inductive Res where
  | out (k : Int)
  | ever
  | stop (w : Str)
deriving DecidableEq
instance : Inhabited Res := ⟨.ever⟩
def Res.d : Res → PyData
  | .out k => .tuple [.str "out", .int k]
  | .ever => .tuple [.str "ever"]
  | .stop w => .tuple [.str "stop", .str w]
def resD (rs : List Res) : PyData := .tuple (rs.map Res.d)
structure Leg where
  door : Int
  st : Int
  rule : Option Nat
  bran : Option Int
  next : Option Int
def Leg.d (l : Leg) : PyData := .tuple [.int l.door, .int l.st, optN l.rule, optI l.bran, optI l.next]
def legStep (R : Rob) (s : Str) (G : List (List Res)) (x : Int × Int) : Leg × (Res ⊕ (Int × Int)) :=
  let rule := ruleOf (R.getD x.2.toNat []) s (1 + (G.length : Nat))
  match deedOf (R.getD x.2.toNat []) rule with
  | .stop w => (⟨x.1, x.2, rule, none, none⟩, .inl (.stop w))
  | .go a b =>
    let out := (x.1 + a) % (1 + (G.length : Nat))
    if out = 0 then (⟨x.1, x.2, rule, none, some b⟩, .inl (.out b)) else
    (⟨x.1, x.2, rule, some (out - 1), some b⟩, match (G.getD (out - 1).toNat []).getD b.toNat default with
      | .out k => .inr (out, k)
      | r => .inl r)
def run (R : Rob) (s : Str) (G : List (List Res)) : Nat → List (Int × Int) → List Leg → Int × Int → List Leg × Res × Option Nat
  | 0, _, ls, _ => (ls, .ever, none)
  | f + 1, seen, ls, x => if x ∈ seen then (ls, .ever, some (seen.idxOf x)) else
    match (legStep R s G x).2 with
    | .inl r => (ls ++ [(legStep R s G x).1], r, none)
    | .inr y => run R s G f (seen ++ [x]) (ls ++ [(legStep R s G x).1]) y
def legs (R : Rob) (s : Str) (G : List (List Res)) (st : Int) : List Leg × Res × Option Nat := run R s G ((1 + G.length) * R.length + 1) [] [] (0, st)
theorem deed_filter (s : Str) (q : Int) : ∀ rs : List Rl, deedOf rs (ruleOf rs s q) = match rs.filter (Rl.fits s q) with
    | [] => .stop "lost"
    | r :: _ => r.dd
  | [] => rfl
  | r :: rs => by
    have ih := deed_filter s q rs
    unfold ruleOf at ih ⊢
    rw [List.findIdx?_cons]
    by_cases f : r.fits s q = true
    · rw [if_pos f, List.filter_cons_of_pos f]
      rfl
    · rw [if_neg f, List.filter_cons_of_neg f, ← ih]
      cases List.findIdx? (Rl.fits s q) rs with
      | none => rfl
      | some i => rfl
def Deed.Wf (n : Nat) : Deed → Prop
  | .stop w => Tx 20 w
  | .go a b => 0 ≤ a ∧ a ≤ 2 ∧ 0 ≤ b ∧ b < n
structure Rl.Wf (n : Nat) (r : Rl) : Prop where
  sg : ∀ s, r.sg = some s → Tx 20 s
  dr : ∀ k, r.dr = some k → 1 ≤ k ∧ k ≤ 3
  dd : r.dd.Wf n
structure RobWf (R : Rob) : Prop where
  one : 1 ≤ R.length
  few : R.length ≤ 100
  st : ∀ rs ∈ R, rs.length ≤ 6 ∧ ∀ r ∈ rs, r.Wf R.length
def Res.Wf (n : Nat) : Res → Prop
  | .out k => 0 ≤ k ∧ k < n
  | .ever => True
  | .stop w => Tx 20 w
structure GWf (n : Nat) (G : List (List Res)) : Prop where
  few : G.length ≤ 2
  len : ∀ rs ∈ G, rs.length = n
  wf : ∀ rs ∈ G, ∀ r ∈ rs, r.Wf n
theorem deedOf_wf {R : Rob} (h : RobWf R) {st : Int} (h0 : 0 ≤ st) (h1 : st < R.length) (s : Str) (q : Int) : (deedOf (R.getD st.toNat []) (ruleOf (R.getD st.toNat []) s q)).Wf R.length := by
  cases e : ruleOf (R.getD st.toNat []) s q with
  | none => exact Tx.lit
  | some i =>
    have hm : R.getD st.toNat [] ∈ R := getD_mem (by omega)
    have hi : i < (R.getD st.toNat []).length := by
      unfold ruleOf at e
      exact (List.findIdx?_eq_some_iff_getElem.mp e).1
    exact ((h.st _ hm).2 _ (getD_mem hi)).dd
theorem legStep_wf {R : Rob} {s : Str} {G : List (List Res)} (h : RobWf R) (g : GWf R.length G) {x : Int × Int} (hx : 0 ≤ x.1 ∧ x.1 < ((1 + G.length : Nat) : Int) ∧ 0 ≤ x.2 ∧ x.2 < (R.length : Nat)) :
    (∀ r, (legStep R s G x).2 = .inl r → r.Wf R.length) ∧ ∀ y, (legStep R s G x).2 = .inr y → 0 ≤ y.1 ∧ y.1 < ((1 + G.length : Nat) : Int) ∧ 0 ≤ y.2 ∧ y.2 < (R.length : Nat) := by
  have hd := deedOf_wf h hx.2.2.1 hx.2.2.2 s (1 + (G.length : Nat))
  unfold legStep
  simp only
  cases e : deedOf (R.getD x.2.toNat []) (ruleOf (R.getD x.2.toNat []) s (1 + (G.length : Nat))) with
  | stop w =>
    rw [e] at hd
    exact ⟨fun r q => by cases q; exact hd, fun y q => by cases q⟩
  | go a b =>
    rw [e] at hd
    obtain ⟨a0, a1, b0, b1⟩ := hd
    simp only
    by_cases z : (x.1 + a) % (1 + (G.length : Nat)) = 0
    · rw [if_pos z]
      exact ⟨fun r q => by cases q; exact ⟨b0, b1⟩, fun y q => by cases q⟩
    · rw [if_neg z]
      have p : (0 : Int) < 1 + (G.length : Nat) := by omega
      have m0 := Int.emod_nonneg (x.1 + a) (show (1 : Int) + (G.length : Nat) ≠ 0 by omega)
      have m1 := Int.emod_lt_of_pos (x.1 + a) p
      have gm : G.getD ((x.1 + a) % (1 + (G.length : Nat)) - 1).toNat [] ∈ G := getD_mem (by omega)
      have rl := g.len _ gm
      have rw' := g.wf _ gm _ (getD_mem (k := b.toNat) (by rw [rl]; omega))
      simp only
      cases e2 : (G.getD ((x.1 + a) % (1 + (G.length : Nat)) - 1).toNat []).getD b.toNat default with
      | out k =>
        rw [e2] at rw'
        exact ⟨fun r q => (by cases q), fun y q => by cases q; exact ⟨m0, by simpa using m1, rw'.1, rw'.2⟩⟩
      | ever => exact ⟨fun r q => by cases q; trivial, fun y q => by cases q⟩
      | stop w =>
        rw [e2] at rw'
        exact ⟨fun r q => by cases q; exact rw', fun y q => by cases q⟩
theorem run_wf {R : Rob} {s : Str} {G : List (List Res)} (h : RobWf R) (g : GWf R.length G) : ∀ (f : Nat) (seen : List (Int × Int)) (ls : List Leg) (x : Int × Int), (0 ≤ x.1 ∧ x.1 < ((1 + G.length : Nat) : Int) ∧ 0 ≤ x.2 ∧ x.2 < (R.length : Nat)) → (run R s G f seen ls x).2.1.Wf R.length
  | 0, _, _, _, _ => trivial
  | f + 1, seen, ls, x, hx => by
    unfold run
    split
    · trivial
    · obtain ⟨w1, w2⟩ := legStep_wf (s := s) h g hx
      split
      · rename_i r e; exact w1 _ e
      · rename_i y e; exact run_wf h g f _ _ y (w2 _ e)
def roomR (R : Rob) (s : Str) (G : List (List Res)) : List Res := (List.range R.length).map fun i => (legs R s G (i : Nat)).2.1
theorem legs_wf {R : Rob} {s : Str} {G : List (List Res)} (h : RobWf R) (g : GWf R.length G) {st : Int} (h0 : 0 ≤ st) (h1 : st < R.length) : (legs R s G st).2.1.Wf R.length := run_wf h g _ _ _ _ ⟨by simp, by simp; omega, h0, h1⟩
end PD
namespace PD
open PySem PySem.Spec PyProof.Rows L2
def pk (p : List Int) : PyData := .tuple (p.map .int)
theorem ixT_last {S : Store} {ds : List PyData} {x : PyData} : ixV (.d (.tuple (ds ++ [x]))) (.d (.int (-1))) S = .ok (.d x) S := by
  have := ix_last (S := S) (ds := ds) (x := x)
  exact this
structure Std where
  path : List Int
  door : Int
  st : Int
deriving DecidableEq
def Std.d (x : Std) : PyData := .tuple [pk x.path, .int x.door, .int x.st]
def gStep (R : Rob) (s : Str) (q : Int) (x : Std) : Option Nat × (Res ⊕ Std) :=
  let rule := ruleOf (R.getD x.st.toNat []) s q
  (rule, match deedOf (R.getD x.st.toNat []) rule with
  | .stop w => .inl (.stop w)
  | .go a b => if 0 < (x.door + a) % q then .inr ⟨x.path ++ [(x.door + a) % q], 0, b⟩ else match x.path.getLast? with
    | none => .inl (.out b)
    | some k => .inr ⟨x.path.dropLast, k, b⟩)
namespace Maze
mutual
theorem rooms_nodup : ∀ (p : List Int) (m : Maze), ((rooms p m).map (·.1)).Nodup
  | p, .mk s bs => by
    rw [rooms, List.map_cons, List.nodup_cons]
    refine ⟨fun h => ?_, roomsL_nodup p 1 bs⟩
    obtain ⟨q, hq, e⟩ := List.mem_map.mp h
    obtain ⟨i, m, r, e2, _, _⟩ := roomsL_at p 1 bs q hq
    rw [e] at e2
    have := congrArg List.length e2
    simp at this
theorem roomsL_nodup : ∀ (p : List Int) (k : Int) (bs : List Maze), ((roomsL p k bs).map (·.1)).Nodup
  | _, _, [] => by rw [roomsL]; exact List.nodup_nil
  | p, k, b :: bs => by
    rw [roomsL, List.map_append, List.nodup_append]
    refine ⟨rooms_nodup (p ++ [k]) b, roomsL_nodup p (k + 1) bs, fun x hx y hy e => ?_⟩
    subst e
    obtain ⟨q, hq, e1⟩ := List.mem_map.mp hx
    obtain ⟨q2, hq2, e2⟩ := List.mem_map.mp hy
    obtain ⟨r, h1, _⟩ := rooms_at (p ++ [k]) b q hq
    obtain ⟨i, _, r2, h2, _, _⟩ := roomsL_at p (k + 1) bs q2 hq2
    rw [← e1, h1] at e2
    rw [h2, List.append_assoc, List.append_assoc] at e2
    have := List.append_cancel_left e2
    simp at this
    omega
end
end Maze
namespace Maze
structure Bag (m : Maze) (k : Nat) (st fd : List (List Int × Maze)) : Prop where
  out : (fd ++ st.flatMap fun q => rooms q.1 q.2).Perm (rooms [] m)
  cnt : (st.map fun q => q.2.size).sum = k
  all : ∀ q ∈ st, q.1.length + q.2.size ≤ m.size
theorem Bag.start (m : Maze) : Bag m m.size [([], m)] [] := ⟨by simp, by simp, by simp⟩
theorem doors_mem (p : List Int) : ∀ (k : Int) (bs : List Maze), ∀ q ∈ doorsL p k bs, q.1.length = p.length + 1 ∧ q.2 ∈ bs ∧ q.2.size ≤ sizes bs
  | _, [], q, h => by rw [doorsL] at h; cases h
  | k, b :: bs, q, h => by
    rw [doorsL] at h
    rcases List.mem_cons.mp h with rfl | h
    · exact ⟨by simp, List.mem_cons_self, by rw [sizes]; exact Nat.le_add_right _ _⟩
    · obtain ⟨a, b', c⟩ := doors_mem p (k + 1) bs q h
      exact ⟨a, List.mem_cons_of_mem _ b', by rw [sizes]; omega⟩
theorem doors_size (p : List Int) : ∀ (k : Int) (bs : List Maze), ((doorsL p k bs).map fun q => q.2.size).sum = sizes bs
  | _, [] => by rw [doorsL, sizes]; rfl
  | k, b :: bs => by rw [doorsL, sizes, List.map_cons, List.sum_cons, doors_size p (k + 1) bs]
theorem Bag.step {m : Maze} {k : Nat} {st fd : List (List Int × Maze)} {p : List Int} {s : Str} {bs : List Maze} (h : Bag m k (st ++ [(p, .mk s bs)]) fd) : ∃ j, j < k ∧ Bag m j (st ++ doorsL p 1 bs) (fd ++ [(p, .mk s bs)]) := by
  have e := h.cnt
  rw [List.map_append, List.sum_append, List.map_cons, List.map_nil, List.sum_cons, List.sum_nil, size] at e
  refine ⟨(st.map fun q => q.2.size).sum + sizes bs, by omega, ?_, by rw [List.map_append, List.sum_append, doors_size], fun q hq => ?_⟩
  rotate_left
  · rcases List.mem_append.mp hq with z | z
    · exact h.all q (List.mem_append_left _ z)
    · have a := h.all (p, .mk s bs) (List.mem_append_right _ List.mem_cons_self)
      obtain ⟨b, _, c⟩ := doors_mem p 1 bs q z
      rw [size] at a
      simp only at a
      omega
  refine List.Perm.trans ?_ h.out
  rw [List.flatMap_append, List.flatMap_append, List.flatMap_cons, List.flatMap_nil, List.append_nil, rooms, rooms_doors, List.append_assoc]
  refine List.Perm.append_left fd ?_
  exact (List.perm_middle (l₁ := st.flatMap fun q => rooms q.1 q.2) (a := (p, Maze.mk s bs)) (l₂ := (doorsL p 1 bs).flatMap fun q => rooms q.1 q.2)).symm
theorem Bag.fresh {m : Maze} {k : Nat} {st fd : List (List Int × Maze)} {q : List Int × Maze} (h : Bag m k (st ++ [q]) fd) : ∀ x ∈ fd, x.1 ≠ q.1 := fun x hx e => by
  have nd := (h.out.map (·.1)).nodup_iff.mpr (rooms_nodup [] m)
  rw [List.map_append, List.nodup_append] at nd
  refine nd.2.2 x.1 (List.mem_map_of_mem hx) q.1 ?_ e
  obtain ⟨p, mz⟩ := q
  rw [List.flatMap_append, List.map_append]
  refine List.mem_append_right _ ?_
  cases mz with
  | mk s bs =>
    rw [List.flatMap_cons, rooms]
    simp
end Maze
end PD
namespace PD
open PySem PySem.Spec PyProof.Rows L2
mutual
def wt : PyData → Nat
  | .none => 5
  | .bool _ => 5
  | .int i => (toString i).length
  | .str x => 10 * x.length + 2
  | .list xs => 3 + wts xs
  | .tuple xs => 3 + wts xs
  | .dict kvs => 3 + wtk kvs
def wts : List PyData → Nat
  | [] => 0
  | x :: xs => wt x + 2 + wts xs
def wtk : List (PyData × PyData) → Nat
  | [] => 0
  | (k, v) :: r => wt k + wt v + 4 + wtk r
end
mutual
def fine : PyData → Prop
  | .none => True
  | .bool _ => True
  | .int i => i.natAbs.log2 < 1920
  | .str x => ∀ c ∈ x.cps.toList, c < 1114112
  | .list xs => fines xs
  | .tuple xs => fines xs
  | .dict kvs => finek kvs
def fines : List PyData → Prop
  | [] => True
  | x :: xs => fine x ∧ fines xs
def finek : List (PyData × PyData) → Prop
  | [] => True
  | (k, v) :: r => fine k ∧ fine v ∧ finek r
end
mutual
theorem fine_ok : ∀ {d : PyData}, fine d → d.showable = true
  | .none, _ => rfl
  | .bool _, _ => rfl
  | .int i, h => by simpa [PyData.showable, fine] using h
  | .str _, _ => rfl
  | .list xs, h => fines_ok (ds := xs) h
  | .tuple xs, h => fines_ok (ds := xs) h
  | .dict kvs, h => finek_ok (ds := kvs) h
theorem fines_ok : ∀ {ds : List PyData}, fines ds → PyData.showableAll ds = true
  | [], _ => rfl
  | x :: xs, h => by
    simp only [PyData.showableAll, fine_ok h.1, fines_ok h.2, Bool.and_self]
theorem finek_ok : ∀ {ds : List (PyData × PyData)}, finek ds → PyData.showableKv ds = true
  | [], _ => rfl
  | (k, v) :: r, h => by
    simp only [PyData.showableKv, fine_ok h.1, fine_ok h.2.1, finek_ok h.2.2, Bool.and_self]
end
def sumL (ts : List Str) : Nat := (ts.map fun t : Str => t.length + 2).sum
theorem join_sum : ∀ (ts : List Str), (Str.join ", " ts).length ≤ sumL ts
  | [] => Nat.zero_le _
  | [t] => by
    show t.length ≤ _
    simp [sumL]
  | t :: u :: r => by
    have ih := join_sum (u :: r)
    show (t ++ ", " ++ Str.join ", " (u :: r)).length ≤ _
    have l0 : (", " : Str).length = 2 := rfl
    rw [Str.length_append, Str.length_append, l0]
    have : sumL (t :: u :: r) = t.length + 2 + sumL (u :: r) := by simp [sumL]
    omega
theorem textFrom_le : ∀ (ts : List Str) (k : Nat) (acc : Str), (textFrom k acc ts).length ≤ acc.length + sumL ts
  | [], k, acc => Nat.le_refl _
  | t :: r, k, acc => by
    have h := textFrom_le r (k + 1) (acc ++ (if k > 0 then ", " else "" : String) ++ t)
    have e : sumL (t :: r) = t.length + 2 + sumL r := by simp [sumL]
    show (textFrom (k + 1) (acc ++ (if k > 0 then ", " else "" : String) ++ t) r).length ≤ _
    have l : (Str.ofString (if k > 0 then ", " else "" : String)).length ≤ 2 := by
      by_cases q : k > 0
      · rw [if_pos q]; decide
      · rw [if_neg q]; decide
    rw [Str.length_append, Str.length_append] at h
    omega
theorem listText_len (ts : List Str) : (listText ts).length ≤ 3 + sumL ts := by
  have := textFrom_le ts 0 "["
  unfold listText
  have l1 : ("[" : Str).length = 1 := rfl
  have l2 : ("]" : Str).length = 1 := rfl
  rw [Str.length_append, l2]
  omega
theorem tupleText_len (ts : List Str) : (tupleText ts).length ≤ 3 + sumL ts := by
  have := join_sum ts
  show (("(" : Str) ++ Str.join ", " ts ++ (if ts.length == 1 then ",)" else ")" : String)).length ≤ _
  have l1 : ("(" : Str).length = 1 := rfl
  have l2 : (Str.ofString (if ts.length == 1 then ",)" else ")" : String)).length ≤ 2 := by
    by_cases q : (ts.length == 1) = true
    · rw [if_pos q]; decide
    · rw [if_neg q]; decide
  rw [Str.length_append, Str.length_append, l1]
  omega
theorem dictText_len (ts : List Str) : (dictText ts).length ≤ 3 + sumL ts := by
  have := join_sum ts
  show (("{" : Str) ++ Str.join ", " ts ++ "}").length ≤ _
  have l1 : ("{" : Str).length = 1 := rfl
  have l2 : ("}" : Str).length = 1 := rfl
  rw [Str.length_append, Str.length_append, l1, l2]
  omega
mutual
theorem shown_len : ∀ {d : PyData}, fine d → d.shown.length ≤ wt d
  | .none, _ => by decide
  | .bool b, _ => by cases b <;> decide
  | .int i, _ => by
    show (Str.ofString (toString i)).length ≤ (toString i).length
    rw [PySem.ofString_length]
    exact Nat.le_refl _
  | .str x, h => Tx.repr (n := x.length) ⟨Nat.le_refl _, h⟩
  | .list xs, h => by
    have := shownAll_len (ds := xs) h
    have l := listText_len (PyData.shownAll xs)
    show (listText (PyData.shownAll xs)).length ≤ 3 + wts xs
    omega
  | .tuple xs, h => by
    have := shownAll_len (ds := xs) h
    have l := tupleText_len (PyData.shownAll xs)
    show (tupleText (PyData.shownAll xs)).length ≤ 3 + wts xs
    omega
  | .dict kvs, h => by
    have := shownKv_len (ds := kvs) h
    have l := dictText_len (PyData.shownKv kvs)
    show (dictText (PyData.shownKv kvs)).length ≤ 3 + wtk kvs
    omega
theorem shownAll_len : ∀ {ds : List PyData}, fines ds → sumL (PyData.shownAll ds) ≤ wts ds
  | [], _ => Nat.zero_le _
  | x :: xs, h => by
    have a := shown_len (d := x) h.1
    have b := shownAll_len (ds := xs) h.2
    have : sumL (PyData.shownAll (x :: xs)) = x.shown.length + 2 + sumL (PyData.shownAll xs) := by simp [sumL, PyData.shownAll]
    simp only [wts]
    omega
theorem shownKv_len : ∀ {ds : List (PyData × PyData)}, finek ds → sumL (PyData.shownKv ds) ≤ wtk ds
  | [], _ => Nat.zero_le _
  | (k, v) :: r, h => by
    have a := shown_len (d := k) h.1
    have b := shown_len (d := v) h.2.1
    have c := shownKv_len (ds := r) h.2.2
    have l0 : (": " : Str).length = 2 := rfl
    have : sumL (PyData.shownKv ((k, v) :: r)) = (k.shown ++ ": " ++ v.shown).length + 2 + sumL (PyData.shownKv r) := by simp [sumL, PyData.shownKv]
    rw [this, Str.length_append, Str.length_append, l0]
    simp only [wtk]
    omega
end
structure Wd (k n : Nat) (d : PyData) : Prop where
  ok : fine d
  dp : d.depth ≤ k
  ln : wt d ≤ n
structure Wds (k n : Nat) (ds : List PyData) : Prop where
  ok : fines ds
  dp : PyData.depthAll ds ≤ k
  ln : wts ds ≤ n
theorem Wd.mono {k k' n n' : Nat} {d : PyData} (h : Wd k n d) (a : k ≤ k') (b : n ≤ n') : Wd k' n' d := ⟨h.ok, Nat.le_trans h.dp a, Nat.le_trans h.ln b⟩
theorem Wds.mono {k k' n n' : Nat} {d : List PyData} (h : Wds k n d) (a : k ≤ k') (b : n ≤ n') : Wds k' n' d := ⟨h.ok, Nat.le_trans h.dp a, Nat.le_trans h.ln b⟩
theorem Wd.reprOk {k n : Nat} {d : PyData} (h : Wd k n d) (hk : k ≤ 180 := by omega) (hn : n ≤ 16777216 := by omega) : reprOkD d = true := by
  have sz : sizeLine = 16777216 := sizeLine_eq
  have := shown_len h.ok
  have h1 := h.ln
  have h2 := h.dp
  simp only [reprOkD, fine_ok h.ok, Bool.true_and, Bool.and_eq_true, decide_eq_true_eq]
  exact ⟨by omega, by omega⟩
theorem Wd.repr {k n : Nat} {d : PyData} {S : Store} (h : Wd k n d) (hk : k ≤ 180 := by omega) (hn : n ≤ 16777216 := by omega) : reprVD [.d d] S = .ok (.d (.str d.shown)) S := by
  show (if reprOkD d = true then Rs.ok (SV.d (.str d.shown)) S else .bad) = _
  rw [if_pos (h.reprOk hk hn)]
section
variable {k n m : Nat} {d e : PyData} {ds es : List PyData}
theorem Wd.none : Wd k (n + 5) .none := ⟨trivial, Nat.zero_le _, by simp only [wt]; omega⟩
theorem Wd.bool {b : Bool} : Wd k (n + 5) (.bool b) := ⟨trivial, Nat.zero_le _, by simp only [wt]; omega⟩
theorem Wd.int {i : Int} (h : i.natAbs < 10 ^ m) (l : m + 1 ≤ n := by decide) (hm : 0 < m := by decide) (hk : m ≤ 400 := by decide) : Wd k n (.int i) :=
  ⟨log2_small h hk, Nat.zero_le _, Nat.le_trans (int_text_length_le10 hm h) l⟩
theorem Wd.str {s : Str} (h : Tx m s) (l : 10 * m + 2 ≤ n := by omega) : Wd k n (.str s) := ⟨h.2, Nat.zero_le _, by have := h.1; simp only [wt]; omega⟩
theorem Wd.tup (h : Wds k n ds) : Wd (k + 1) (n + 3) (.tuple ds) := ⟨h.ok, by have := h.dp; simp only [PyData.depth]; omega, by have := h.ln; simp only [wt]; omega⟩
theorem Wd.lst (h : Wds k n ds) : Wd (k + 1) (n + 3) (.list ds) := ⟨h.ok, by have := h.dp; simp only [PyData.depth]; omega, by have := h.ln; simp only [wt]; omega⟩
theorem Wd.dict0 : Wd (k + 1) (n + 3) (.dict []) := ⟨trivial, by simp [PyData.depth, PyData.depthKv], by simp only [wt, wtk]; omega⟩
theorem Wds.nil : Wds k n [] := ⟨trivial, by simp [PyData.depthAll], Nat.zero_le _⟩
theorem Wds.cons (h : Wd k n d) (t : Wds k m ds) : Wds k (n + m + 2) (d :: ds) := by
  have a := h.dp
  have b := h.ln
  have c := t.dp
  have e := t.ln
  exact ⟨⟨h.ok, t.ok⟩, by simp only [PyData.depthAll]; omega, by simp only [wts]; omega⟩
theorem Wds.head (h : Wds k n (d :: ds)) : Wd k n d := by
  have c := h.dp
  have e := h.ln
  simp only [PyData.depthAll] at c
  simp only [wts] at e
  exact ⟨h.ok.1, by omega, by omega⟩
theorem Wds.tail (h : Wds k n (d :: ds)) : Wds k n ds := by
  have c := h.dp
  have e := h.ln
  simp only [PyData.depthAll] at c
  simp only [wts] at e
  exact ⟨h.ok.2, by omega, by omega⟩
theorem Wds.mem : ∀ {ds : List PyData}, Wds k n ds → d ∈ ds → Wd k n d
  | x :: xs, h, m => by
    rcases List.mem_cons.mp m with rfl | m
    · exact h.head
    · exact Wds.mem h.tail m
theorem wts_app : ∀ (ds es : List PyData), wts (ds ++ es) = wts ds + wts es
  | [], es => by simp [wts]
  | x :: xs, es => by simp only [List.cons_append, wts, wts_app xs es]; omega
theorem fines_app : ∀ {ds es : List PyData}, fines (ds ++ es) ↔ fines ds ∧ fines es
  | [], es => by simp [fines]
  | x :: xs, es => by simp only [List.cons_append, fines, fines_app (ds := xs) (es := es), and_assoc]
theorem depthAll_app : ∀ (ds es : List PyData), PyData.depthAll (ds ++ es) = max (PyData.depthAll ds) (PyData.depthAll es)
  | [], es => by simp [PyData.depthAll]
  | x :: xs, es => by simp only [List.cons_append, PyData.depthAll, depthAll_app xs es]; omega
theorem Wds.app (h : Wds k n ds) (t : Wds k m es) : Wds k (n + m) (ds ++ es) := by
  have a := h.dp
  have b := h.ln
  have c := t.dp
  have e := t.ln
  exact ⟨fines_app.mpr ⟨h.ok, t.ok⟩, by rw [depthAll_app]; omega, by rw [wts_app]; omega⟩
theorem Wds.left (h : Wds k n (ds ++ es)) : Wds k n ds := by
  have a := h.dp
  have b := h.ln
  rw [depthAll_app] at a
  rw [wts_app] at b
  exact ⟨(fines_app.mp h.ok).1, by omega, by omega⟩
theorem Wds.right (h : Wds k n (ds ++ es)) : Wds k n es := by
  have a := h.dp
  have b := h.ln
  rw [depthAll_app] at a
  rw [wts_app] at b
  exact ⟨(fines_app.mp h.ok).2, by omega, by omega⟩
theorem Wds.take (h : Wds k n ds) (i : Nat) : Wds k n (ds.take i) := Wds.left (es := ds.drop i) (by rw [List.take_append_drop]; exact h)
theorem Wds.drop (h : Wds k n ds) (i : Nat) : Wds k n (ds.drop i) := Wds.right (ds := ds.take i) (by rw [List.take_append_drop]; exact h)
theorem Wds.cut (h : Wds k n ds) (i j : Option Int) : Wds k n (cutD ds i j) := by
  unfold cutD
  exact (h.drop _).take _
theorem Wds.len (h : Wds k n ds) : 2 * ds.length ≤ n := by
  have : ∀ ds : List PyData, 2 * ds.length ≤ wts ds := fun ds => by
    induction ds with
    | nil => simp [wts]
    | cons x xs ih => simp only [List.length_cons, wts]; omega
  have := this ds
  have := h.ln
  omega
theorem Wd.tx {s : Str} (h : Wd k n (.str s)) : Tx n s := ⟨by have := h.ln; simp only [wt] at this; omega, h.ok⟩
theorem Wds.of (h : ∀ d ∈ ds, Wd k m d) : Wds k (ds.length * (m + 2)) ds := by
  induction ds with
  | nil => exact Wds.nil
  | cons x xs ih =>
    have a := h x List.mem_cons_self
    have b := ih fun d hd => h d (List.mem_cons_of_mem _ hd)
    rw [List.length_cons, Nat.succ_mul]
    exact (Wds.cons a b).mono (Nat.le_refl _) (by omega)
theorem Wd.t1 {d1 : PyData} {a : Nat} (h1 : Wd k a d1) (l : a + 5 ≤ n := by omega) : Wd (k + 1) n (.tuple [d1]) :=
  (Wd.tup (Wds.cons h1 (Wds.nil (n := 0)))).mono (Nat.le_refl _) (by omega)
theorem Wd.t2 {d1 d2 : PyData} {a b : Nat} (h1 : Wd k a d1) (h2 : Wd k b d2) (l : a + b + 7 ≤ n := by omega) : Wd (k + 1) n (.tuple [d1, d2]) :=
  (Wd.tup (Wds.cons h1 (Wds.cons h2 (Wds.nil (n := 0))))).mono (Nat.le_refl _) (by omega)
theorem Wd.t3 {d1 d2 d3 : PyData} {a b c : Nat} (h1 : Wd k a d1) (h2 : Wd k b d2) (h3 : Wd k c d3) (l : a + b + c + 9 ≤ n := by omega) : Wd (k + 1) n (.tuple [d1, d2, d3]) :=
  (Wd.tup (Wds.cons h1 (Wds.cons h2 (Wds.cons h3 (Wds.nil (n := 0)))))).mono (Nat.le_refl _) (by omega)
theorem Wd.t4 {d1 d2 d3 d4 : PyData} {a b c e : Nat} (h1 : Wd k a d1) (h2 : Wd k b d2) (h3 : Wd k c d3) (h4 : Wd k e d4) (l : a + b + c + e + 11 ≤ n := by omega) : Wd (k + 1) n (.tuple [d1, d2, d3, d4]) :=
  (Wd.tup (Wds.cons h1 (Wds.cons h2 (Wds.cons h3 (Wds.cons h4 (Wds.nil (n := 0))))))).mono (Nat.le_refl _) (by omega)
theorem Wds.map {α : Type} {f : α → PyData} {xs : List α} {a : Nat} (h : ∀ x ∈ xs, Wd k a (f x)) (j : Nat) (hl : xs.length ≤ j) (l : j * (a + 2) ≤ n := by omega) : Wds k n (xs.map f) := by
  have := Wds.of (ds := xs.map f) (k := k) (m := a) fun d hd => by
    obtain ⟨r, hr, rfl⟩ := List.mem_map.mp hd
    exact h r hr
  rw [List.length_map] at this
  exact this.mono (Nat.le_refl _) (Nat.le_trans (Nat.mul_le_mul_right _ hl) l)
theorem Wd.tmap {α : Type} {f : α → PyData} {xs : List α} {a : Nat} (h : ∀ x ∈ xs, Wd k a (f x)) (j : Nat) (hl : xs.length ≤ j) (l : j * (a + 2) + 3 ≤ n := by omega) : Wd (k + 1) n (.tuple (xs.map f)) :=
  (Wd.tup (Wds.map h j hl (Nat.le_refl _))).mono (Nat.le_refl _) l
theorem Wd.lit {s : String} (l : 10 * s.length + 2 ≤ n := by decide) : Wd k n (.str (Str.ofString s)) := Wd.str (Tx.of s) l
theorem Wd.small {i : Int} (h : i.natAbs < 1000) (l : 4 ≤ n := by omega) : Wd k n (.int i) := (Wd.int (k := k) (n := 4) (m := 3) h).mono (Nat.le_refl _) l
end
end PD
namespace PD
open PySem PySem.Spec PyProof.Rows L2
theorem ssat_each {α : Type} {enc : α → SV} {g : GM} {m : SM} {p : Po} {ys : List α} {fr : Fr} {S : Store} (I : List α → Fr → Store → Prop) (h0 : I [] fr S)
    (hs : ∀ done y rest, ys = done ++ y :: rest → ∀ fr S, I done fr S → ∃ fr1, g (enc y) fr = some fr1 ∧ (m fr1 S).sat ⟨I (done ++ [y]), p.nx, I (done ++ [y]), p.rt, p.ex⟩)
    (hf : ∀ fr S, I ys fr S → p.nx fr S) : (forF g m (ys.map enc) fr S).sat p := by
  refine ssat_for (fun k => I (ys.take k)) 0 (by simpa using h0) (fun k x fr S e h => ?_) fun fr S h => hf fr S ?_
  · rw [Nat.zero_add] at h ⊢
    rw [List.getElem?_map] at e
    obtain ⟨y, hy, rfl⟩ := Option.map_eq_some_iff.mp e
    obtain ⟨hl, rfl⟩ := List.getElem?_eq_some_iff.mp hy
    have := hs (ys.take k) ys[k] (ys.drop (k + 1)) (by rw [← List.drop_eq_getElem_cons hl, List.take_append_drop]) fr S h
    rw [List.take_succ_eq_append_getElem hl]
    exact this
  · rw [List.length_map, Nat.zero_add, List.take_length] at h
    exact h
theorem inV_tup {neg : Bool} {x : PyData} {ds : List PyData} {S : Store} : PD.inV neg (.d x) (.d (.tuple ds)) S = if inOk x ds = true then .ok (.d (.bool (neg ^^ ds.any fun y => PyData.eqv y x))) S else .bad := by cases x <;> rfl
theorem inV_lst {neg : Bool} {x : PyData} {ds : List PyData} {S : Store} : PD.inV neg (.d x) (.d (.list ds)) S = if inOk x ds = true then .ok (.d (.bool (neg ^^ ds.any fun y => PyData.eqv y x))) S else .bad := by cases x <;> rfl
inductive Lits : List PyData → Prop
  | nil : Lits []
  | str {s : String} {ds : List PyData} : Lits ds → Lits (.str (Str.ofString s) :: ds)
  | int {i : Int} {ds : List PyData} : Lits ds → Lits (.int i :: ds)
  | non {ds : List PyData} : Lits ds → Lits (.none :: ds)
theorem Lits.ok : ∀ {ds : List PyData}, Lits ds → PyData.canLayAll0 ds = true ∧ PyData.depthAll ds = 0
  | _, .nil => ⟨rfl, rfl⟩
  | _, .str h => by
    obtain ⟨a, b⟩ := h.ok
    exact ⟨by rw [PyData.canLayAll0, a, Tx.strOk (Tx.of _)]; rfl, by rw [PyData.depthAll, b]; rfl⟩
  | _, .int h => by
    obtain ⟨a, b⟩ := h.ok
    exact ⟨by rw [PyData.canLayAll0, a]; rfl, by rw [PyData.depthAll, b]; rfl⟩
  | _, .non h => by
    obtain ⟨a, b⟩ := h.ok
    exact ⟨by rw [PyData.canLayAll0, a]; rfl, by rw [PyData.depthAll, b]; rfl⟩
theorem ixT3 {S : Store} {x y z w : PyData} {xs : List PyData} : ixV (.d (.tuple (x :: y :: z :: w :: xs))) (.d (.int 3)) S = .ok (.d w) S := by
  have e : L2.atI (x :: y :: z :: w :: xs) 3 = some w := by
    unfold L2.atI ixN
    rw [if_pos (by decide), if_pos (by simp only [List.length_cons]; omega)]
    rfl
  simp only [ixV, e]
theorem ix_get {ds : List PyData} {i : Int} {S : Store} (h0 : 0 ≤ i) (h1 : i < ds.length) : ixV (.d (.tuple ds)) (.d (.int i)) S = .ok (.d (ds[i.toNat]'(by omega))) S := by
  have hi : i.toNat < ds.length := by omega
  have e : L2.atI ds i = some ds[i.toNat] := by
    unfold L2.atI ixN
    rw [if_pos h0, if_pos h1]
    exact List.getElem?_eq_getElem hi
  simp only [ixV, e]
theorem ix_getL {ds : List PyData} {i : Int} {S : Store} (h0 : 0 ≤ i) (h1 : i < ds.length) : ixV (.d (.list ds)) (.d (.int i)) S = .ok (.d (ds[i.toNat]'(by omega))) S := by
  have hi : i.toNat < ds.length := by omega
  have e : L2.atI ds i = some ds[i.toNat] := by
    unfold L2.atI ixN
    rw [if_pos h0, if_pos h1]
    exact List.getElem?_eq_getElem hi
  simp only [ixV, e]
theorem cutD_tail {x : PyData} {xs : List PyData} : cutD (x :: xs) (some 1) none = xs := by
  unfold cutD
  simp [HT.sIx]
theorem eqv_str {a b : Str} : PyData.eqv (.str a) (.str b) = decide (b = a) := by
  simp only [PyData.eqv]
  rw [Bool.eq_iff_iff, beq_iff_eq, decide_eq_true_iff]
  exact eq_comm
theorem eqv_int {a b : Int} : PyData.eqv (.int a) (.int b) = decide (b = a) := by
  simp only [PyData.eqv]
  rw [Bool.eq_iff_iff, beq_iff_eq, decide_eq_true_iff]
  exact eq_comm
theorem eqV_nilT {neg : Bool} {ds : List PyData} {S : Store} : PD.eqV neg (.d (.tuple ds)) (.d (.tuple [])) S = .ok (.d (.bool (neg ^^ ds.isEmpty))) S := by
  have e : eqOk (.tuple ds) (.tuple []) = true := by
    cases ds with
    | nil => rfl
    | cons d ds => simp [eqOk, lstDiff]
  show (if eqOk (.tuple ds) (.tuple []) = true then Rs.ok (SV.d (.bool (neg ^^ PyData.eqv (.tuple ds) (.tuple [])))) S else .bad) = _
  rw [if_pos e]
  cases ds <;> rfl
end PD
namespace PD
open PySem PySem.Spec PyProof.Rows L2
theorem nodup_sub {α : Type} [DecidableEq α] : ∀ {l L : List α}, l.Nodup → (∀ x ∈ l, x ∈ L) → l.length ≤ L.length
  | [], L, _, _ => Nat.zero_le _
  | x :: l, L, nd, h => by
    rw [List.nodup_cons] at nd
    have := nodup_sub (l := l) (L := L.erase x) nd.2 fun y hy => (List.mem_erase_of_ne (fun e => nd.1 (by rw [← e]; exact hy))).mpr (h y (List.mem_cons_of_mem _ hy))
    rw [List.length_erase_of_mem (h x List.mem_cons_self)] at this
    have p := List.length_pos_of_mem (h x List.mem_cons_self)
    rw [List.length_cons]
    omega
namespace Maze
mutual
theorem at_rooms : ∀ (p r : List Int) (m : Maze) (b : Maze), at? m r = some b → (p ++ r, b) ∈ rooms p m
  | p, [], .mk s bs, b, h => by
    rw [at_nil] at h
    cases h
    rw [rooms, List.append_nil]
    exact List.mem_cons_self
  | p, k :: r, .mk s bs, b, h => by
    obtain ⟨m, k1, k2, e, h'⟩ := at_some h
    rw [rooms]
    refine List.mem_cons_of_mem _ ?_
    have := at_roomsL p 1 r bs (k - 1).toNat m b e h'
    rw [show (1 : Int) + ((k - 1).toNat : Nat) = k by omega] at this
    exact this
theorem at_roomsL : ∀ (p : List Int) (k : Int) (r : List Int) (bs : List Maze) (i : Nat) (m b : Maze), bs[i]? = some m → at? m r = some b → (p ++ (k + (i : Nat)) :: r, b) ∈ roomsL p k bs
  | p, k, r, [], i, m, b, e, h => by simp at e
  | p, k, r, a :: bs, 0, m, b, e, h => by
    simp at e
    subst e
    rw [roomsL]
    refine List.mem_append_left _ ?_
    have := at_rooms (p ++ [k]) r a b h
    simpa using this
  | p, k, r, a :: bs, i + 1, m, b, e, h => by
    rw [roomsL]
    refine List.mem_append_right _ ?_
    have := at_roomsL p (k + 1) r bs i m b (by simpa using e) h
    rw [show k + 1 + ((i : Nat) : Int) = k + ((i + 1 : Nat) : Int) by omega] at this
    exact this
end
theorem at_app : ∀ (p : List Int) {m : Maze} {q : List Int}, at? m (p ++ q) = (at? m p).bind fun b => at? b q
  | [], m, q => by rw [at_nil]; rfl
  | k :: p, .mk s bs, q => by
    rw [List.cons_append, at_cons, at_cons]
    by_cases h : 1 ≤ k ∧ k ≤ bs.length
    · rw [if_pos h, if_pos h]
      cases bs[(k - 1).toNat]? with
      | none => rfl
      | some b =>
        rw [Option.bind_some, Option.bind_some]
        exact at_app p
    · rw [if_neg h, if_neg h]
      rfl
theorem at_one {m b : Maze} {k : Int} (h : at? m [k] = some b) : 1 ≤ k ∧ k ≤ m.brs.length ∧ m.brs[(k - 1).toNat]? = some b := by
  cases m with
  | mk s bs =>
    obtain ⟨m, k1, k2, e, h'⟩ := at_some h
    rw [at_nil] at h'
    cases h'
    exact ⟨k1, k2, e⟩
theorem at_child {m b : Maze} {k : Int} (h1 : 1 ≤ k) (h2 : k ≤ m.brs.length) (e : m.brs[(k - 1).toNat]? = some b) : at? m [k] = some b := by
  cases m with
  | mk s bs =>
    rw [at_cons, if_pos ⟨h1, h2⟩]
    show (bs[(k - 1).toNat]?).bind _ = _
    rw [show bs[(k - 1).toNat]? = some b from e, Option.bind_some, at_nil]
theorem at_wf {m : Maze} : ∀ {p : List Int} {b : Maze}, m.Wf → at? m p = some b → b.Wf ∧ p.length + b.size ≤ m.size
  | [], b, w, h => by rw [at_nil] at h; cases h; exact ⟨w, by simp⟩
  | k :: p, b, w, h => by
    cases m with
    | mk s bs =>
      obtain ⟨m, k1, k2, e, h'⟩ := at_some h
      have hm := List.mem_of_getElem? e
      obtain ⟨a, c⟩ := at_wf (p := p) (w.mem hm) h'
      refine ⟨a, ?_⟩
      have : m.size ≤ sizes bs := by
        have : ∀ {bs : List Maze}, m ∈ bs → m.size ≤ sizes bs := fun {bs} => by
          induction bs with
          | nil => intro h; cases h
          | cons x xs ih =>
            intro h
            rw [sizes]
            rcases List.mem_cons.mp h with rfl | h
            · omega
            · have := ih h; omega
        exact this hm
      rw [size, List.length_cons]
      omega
end Maze
def rv (q : List Int × Maze) : List Int × PyData := (q.1, .tuple [.str q.2.sign, .int (1 + (q.2.brs.length : Nat))])
def wStep (m : Maze) (R : Rob) (x : Std) : Option Nat × (Res ⊕ Std) := match Maze.at? m x.path with
  | some r => gStep R r.sign (1 + (r.brs.length : Nat)) x
  | none => (none, .inl .ever)
def wRun (m : Maze) (R : Rob) : Nat → List Std → Std → Res × List Std
  | 0, seen, _ => (.ever, seen)
  | f + 1, seen, x => if x ∈ seen then (.ever, seen) else match (wStep m R x).2 with
    | .inl r => (r, seen ++ [x])
    | .inr y => wRun m R f (seen ++ [x]) y
def goOf (m : Maze) (R : Rob) (st : Int) : Res × List Std := wRun m R (3 * m.size * R.length + 1) [] ⟨[], 0, st⟩
structure Std.In (m : Maze) (R : Rob) (x : Std) : Prop where
  room : ∃ r, Maze.at? m x.path = some r ∧ 0 ≤ x.door ∧ x.door < 1 + (r.brs.length : Nat)
  s0 : 0 ≤ x.st
  s1 : x.st < R.length
theorem std_few {m : Maze} {R : Rob} (w : m.Wf) {l : List Std} (nd : l.Nodup) (h : ∀ x ∈ l, x.In m R) : l.length ≤ 3 * m.size * R.length := by
  let L : List Std := (Maze.rooms [] m).flatMap fun q => (List.range 3).flatMap fun d => (List.range R.length).map fun s => ⟨q.1, (d : Nat), (s : Nat)⟩
  have hl : L.length = 3 * m.size * R.length := by
    have : ∀ l : List (List Int × Maze), (l.flatMap fun q => (List.range 3).flatMap fun d => (List.range R.length).map fun s => (⟨q.1, (d : Nat), (s : Nat)⟩ : Std)).length = 3 * l.length * R.length := fun l => by
      induction l with
      | nil => simp
      | cons q l ih =>
        rw [List.flatMap_cons, List.length_append, ih]
        simp only [List.length_flatMap, List.length_map, List.length_range, List.length_cons]
        have : ∀ n : Nat, ((List.range 3).map fun _ => n).sum = 3 * n := fun n => by simp [List.range_succ]; omega
        rw [this]
        simp [Nat.mul_add, Nat.add_mul]
        omega
    rw [this, Maze.rooms_len]
  rw [← hl]
  refine nodup_sub nd fun x hx => ?_
  obtain ⟨⟨r, e, d0, d1⟩, s0, s1⟩ := h x hx
  have b3 : r.brs.length ≤ 2 := by
    have q := (Maze.at_wf w e).1
    cases r with
    | mk s bs => exact q.two
  refine List.mem_flatMap.mpr ⟨(x.path, r), by simpa using Maze.at_rooms [] x.path m r e, List.mem_flatMap.mpr ⟨x.door.toNat, List.mem_range.mpr (by omega), List.mem_map.mpr ⟨x.st.toNat, List.mem_range.mpr (by omega), ?_⟩⟩⟩
  cases x
  simp only at *
  simp
  omega
theorem step_in {m : Maze} {R : Rob} (h : RobWf R) {x : Std} (hx : x.In m R) : (∀ r, (wStep m R x).2 = .inl r → r.Wf R.length) ∧ (∀ y, (wStep m R x).2 = .inr y → y.In m R) := by
  obtain ⟨⟨r, e, d0, d1⟩, s0, s1⟩ := hx
  have dw := deedOf_wf h s0 s1 r.sign (1 + (r.brs.length : Nat))
  unfold wStep
  rw [e]
  simp only [gStep]
  cases hd : deedOf (R.getD x.st.toNat []) (ruleOf (R.getD x.st.toNat []) r.sign (1 + (r.brs.length : Nat))) with
  | stop w =>
    rw [hd] at dw
    simp only
    exact ⟨fun r z => (by cases z; exact dw), fun y z => (by cases z)⟩
  | go a b =>
    rw [hd] at dw
    obtain ⟨a0, a1, b0, b1⟩ := dw
    simp only
    by_cases z : 0 < (x.door + a) % (1 + ((r.brs.length : Nat) : Int))
    · rw [if_pos z]
      refine ⟨fun r z => (by cases z), fun y z => ?_⟩
      cases z
      have m1 := Int.emod_lt_of_pos (x.door + a) (show (0 : Int) < 1 + ((r.brs.length : Nat) : Int) by omega)
      generalize (x.door + a) % (1 + ((r.brs.length : Nat) : Int)) = k at *
      have lt : (k - 1).toNat < r.brs.length := by omega
      refine ⟨⟨r.brs[(k - 1).toNat], ?_, by simp, by simp; omega⟩, b0, b1⟩
      show Maze.at? m (x.path ++ [k]) = _
      rw [Maze.at_app, e, Option.bind_some]
      exact Maze.at_child (by omega) (by omega) (List.getElem?_eq_getElem lt)
    · rw [if_neg z]
      rcases List.eq_nil_or_concat x.path with q | ⟨p, k, q⟩
      · rw [q]
        simp only [List.getLast?_nil]
        exact ⟨fun r z => (by cases z; exact ⟨b0, b1⟩), fun y z => (by cases z)⟩
      · rw [List.concat_eq_append] at q
        rw [q]
        simp only [List.getLast?_append, List.getLast?_singleton, Option.some_or, List.dropLast_concat]
        refine ⟨fun r z => (by cases z), fun y z => ?_⟩
        cases z
        rw [q, Maze.at_app] at e
        obtain ⟨r', e1, e2⟩ := Option.bind_eq_some_iff.mp e
        obtain ⟨k1, k2, _⟩ := Maze.at_one e2
        exact ⟨⟨r', e1, by simp; omega, by simp; omega⟩, b0, b1⟩
def yes {α : Type} (x : α) : α × PyData := (x, .bool true)
end PD
namespace PD
open PySem PySem.Spec PyProof.Rows L2
inductive Way (m : Maze) (R : Rob) : Std → List Std → (Res ⊕ Std) → Prop
  | one {x : Std} {e : Res ⊕ Std} : (wStep m R x).2 = e → Way m R x [x] e
  | cons {x y : Std} {l : List Std} {e : Res ⊕ Std} : (wStep m R x).2 = .inr y → Way m R y l e → Way m R x (x :: l) e
section
variable {m : Maze} {R : Rob}
theorem Way.app {x y : Std} {l l' : List Std} {e : Res ⊕ Std} (h : Way m R x l (.inr y)) (k : Way m R y l' e) : Way m R x (l ++ l') e := by
  generalize hz : (Sum.inr y : Res ⊕ Std) = z at h
  induction h with
  | one h => subst hz; exact .cons h k
  | cons h _ ih => exact .cons h (ih hz)
theorem Way.pos {x : Std} {l : List Std} {e : Res ⊕ Std} (h : Way m R x l e) : ∃ t, l = x :: t := by
  cases h with
  | one => exact ⟨[], rfl⟩
  | cons => exact ⟨_, rfl⟩
theorem Way.from {x y : Std} {l : List Std} {e : Res ⊕ Std} (h : Way m R x l e) (hy : y ∈ l) : ∃ l1 l2, l = l1 ++ l2 ∧ Way m R y l2 e := by
  induction h with
  | one h =>
    rw [List.mem_singleton] at hy
    subst hy
    exact ⟨[], _, rfl, .one h⟩
  | @cons x z l e h t ih =>
    rcases List.mem_cons.mp hy with rfl | hy
    · exact ⟨[], _, rfl, .cons h t⟩
    · obtain ⟨l1, l2, e1, w⟩ := ih hy
      exact ⟨x :: l1, l2, by rw [e1]; rfl, w⟩
theorem Way.det {x : Std} {l l' : List Std} {r : Res} {e : Res ⊕ Std} (h : Way m R x l (.inl r)) (k : Way m R x l' e) : l'.length ≤ l.length ∧ (∀ r', e = .inl r' → l' = l ∧ r' = r) := by
  generalize hz : (Sum.inl r : Res ⊕ Std) = z at h
  induction h generalizing l' e with
  | @one x z h =>
    subst hz
    cases k with
    | one k => exact ⟨Nat.le_refl _, fun r' q => ⟨rfl, (by rw [h, q] at k; cases k; rfl)⟩⟩
    | cons k _ => rw [h] at k; cases k
  | @cons x y l z h t ih =>
    cases k with
    | one k => exact ⟨by simp, fun r' q => (by rw [h, q] at k; cases k)⟩
    | cons k t' =>
      rw [h] at k
      cases k
      obtain ⟨a, b⟩ := ih t' hz
      refine ⟨by simpa using a, fun r' q => ?_⟩
      obtain ⟨c, d⟩ := b r' q
      exact ⟨by rw [c], d⟩
theorem Way.nodup {x : Std} {l : List Std} {r : Res} (h : Way m R x l (.inl r)) : l.Nodup := by
  generalize hz : (Sum.inl r : Res ⊕ Std) = z at h
  induction h with
  | one h => simp
  | @cons x y l z h t ih =>
    rw [List.nodup_cons]
    refine ⟨fun hx => ?_, ih hz⟩
    obtain ⟨l1, l2, e1, w⟩ := t.from hx
    subst hz
    have := (Way.det (.cons h t) w).2 r rfl
    have q := congrArg List.length this.1
    rw [e1] at q
    simp at q
    omega
theorem Way.all_in (hR : RobWf R) {x : Std} {l : List Std} {e : Res ⊕ Std} (h : Way m R x l e) (hx : x.In m R) : ∀ y ∈ l, y.In m R := by
  induction h with
  | one h => intro y hy; rw [List.mem_singleton.mp hy]; exact hx
  | cons h t ih =>
    intro y hy
    rcases List.mem_cons.mp hy with rfl | hy
    · exact hx
    · exact ih ((step_in hR hx).2 _ h) y hy
theorem wRun_way {x : Std} {l : List Std} {r : Res} (h : Way m R x l (.inl r)) : ∀ {f : Nat} {seen : List Std}, (∀ y ∈ l, y ∉ seen) → l.length ≤ f → wRun m R f seen x = (r, seen ++ l) := by
  have nd := h.nodup
  generalize hz : (Sum.inl r : Res ⊕ Std) = z at h
  induction h with
  | @one x z h =>
    intro f seen hs hf
    obtain ⟨f, rfl⟩ : ∃ g, f = g + 1 := ⟨f - 1, by simp at hf; omega⟩
    subst hz
    rw [wRun, if_neg (hs _ (by simp)), h]
  | @cons x y l z h t ih =>
    intro f seen hs hf
    obtain ⟨f, rfl⟩ : ∃ g, f = g + 1 := ⟨f - 1, by simp at hf; omega⟩
    rw [List.nodup_cons] at nd
    rw [wRun, if_neg (hs _ (by simp)), h]
    simp only
    rw [ih nd.2 hz (fun y hy q => ?_) (by simpa using hf)]
    · simp
    · rcases List.mem_append.mp q with q | q
      · exact hs y (List.mem_cons_of_mem _ hy) q
      · rw [List.mem_singleton.mp q] at hy
        exact nd.1 hy
theorem wRun_inv : ∀ (f : Nat) (seen : List Std) (x : Std), (wRun m R f seen x).1 = .ever ∨ ∃ l r, Way m R x l (.inl r) ∧ (wRun m R f seen x).1 = r
  | 0, _, _ => .inl rfl
  | f + 1, seen, x => by
    rw [wRun]
    split
    · exact .inl rfl
    · split
      · rename_i r e
        exact .inr ⟨_, r, .one e, rfl⟩
      · rename_i y e
        rcases wRun_inv f (seen ++ [x]) y with q | ⟨l, r, w, q⟩
        · exact .inl q
        · exact .inr ⟨_, r, .cons e w, q⟩
abbrev gate (st : Int) : Std := ⟨[], 0, st⟩
theorem gate_in {st : Int} (h0 : 0 ≤ st) (h1 : st < R.length) : (gate st).In m R := ⟨⟨m, Maze.at_nil m, by simp, by simp; omega⟩, h0, h1⟩
theorem goOf_way (hR : RobWf R) (w : m.Wf) {st : Int} (h0 : 0 ≤ st) (h1 : st < R.length) {l : List Std} {r : Res} (h : Way m R (gate st) l (.inl r)) : goOf m R st = (r, l) := by
  have fit := std_few w h.nodup (h.all_in hR (gate_in h0 h1))
  unfold goOf
  rw [wRun_way h (by simp) (by omega)]
  rfl
theorem goOf_ever {st : Int} (h : ∀ n, ∃ l y, n ≤ l.length ∧ Way m R (gate st) l (.inr y)) : (goOf m R st).1 = .ever := by
  rcases wRun_inv (m := m) (R := R) (3 * m.size * R.length + 1) [] ⟨[], 0, st⟩ with q | ⟨l, r, w, _⟩
  · exact q
  · obtain ⟨l', y, hl, w'⟩ := h (l.length + 1)
    have := (w.det w').1
    omega
end
def exitOf (p : List Int) (k : Int) : Res ⊕ Std := match p.getLast? with
  | none => .inl (.out k)
  | some d => .inr ⟨p.dropLast, d, k⟩
theorem exitOf_snoc (p : List Int) (d k : Int) : exitOf (p ++ [d]) k = .inr ⟨p, d, k⟩ := by
  simp [exitOf]
def Ends (m : Maze) (R : Rob) (p : List Int) (x : Std) : Res → Prop
  | .out k => ∃ l, Way m R x l (exitOf p k) ∧ ∀ y ∈ l, p <+: y.path
  | .stop w => ∃ l, Way m R x l (.inl (.stop w)) ∧ ∀ y ∈ l, p <+: y.path
  | .ever => ∀ n, ∃ l y, n ≤ l.length ∧ Way m R x l (.inr y) ∧ ∀ y ∈ l, p <+: y.path
section
variable {m : Maze} {R : Rob} {p : List Int}
theorem Ends.behind {x y : Std} {l : List Std} {r : Res} (w : Way m R x l (.inr y)) (hl : ∀ y ∈ l, p <+: y.path) (h : Ends m R p y r) : Ends m R p x r := by
  have both : ∀ l', (∀ y ∈ l', p <+: y.path) → ∀ y ∈ l ++ l', p <+: y.path := fun l' h' y hy => (List.mem_append.mp hy).elim (hl y) (h' y)
  cases r with
  | out k =>
    obtain ⟨l', w', h'⟩ := h
    exact ⟨l ++ l', w.app w', both l' h'⟩
  | stop v =>
    obtain ⟨l', w', h'⟩ := h
    exact ⟨l ++ l', w.app w', both l' h'⟩
  | ever =>
    intro n
    obtain ⟨l', z, hn, w', h'⟩ := h n
    exact ⟨l ++ l', z, by rw [List.length_append]; omega, w.app w', both l' h'⟩
theorem Ends.again {x : Std} {l : List Std} (w : Way m R x l (.inr x)) (hl : ∀ y ∈ l, p <+: y.path) : Ends m R p x .ever := by
  intro n
  induction n with
  | zero => exact ⟨l, x, Nat.zero_le _, w, hl⟩
  | succ n ih =>
    obtain ⟨l', z, hn, w', h'⟩ := ih
    obtain ⟨t, rfl⟩ := w.pos
    exact ⟨(x :: t) ++ l', z, by simp; omega, w.app w', fun y hy => (List.mem_append.mp hy).elim (hl y) (h' y)⟩
theorem run_ends (hR : RobWf R) {s : Str} {bs : List Maze} {G : List (List Res)} (g : GWf R.length G) (hG : G.length = bs.length) (hp : Maze.at? m p = some (.mk s bs))
    (ih : ∀ (i : Nat) (st : Int), i < bs.length → 0 ≤ st → st < R.length → Ends m R (p ++ [((i : Nat) : Int) + 1]) ⟨p ++ [((i : Nat) : Int) + 1], 0, st⟩ ((G.getD i []).getD st.toNat default)) :
    ∀ (f : Nat) (seen : List (Int × Int)) (ls : List Leg) (x : Int × Int), (0 ≤ x.1 ∧ x.1 < ((1 + G.length : Nat) : Int) ∧ 0 ≤ x.2 ∧ x.2 < (R.length : Nat)) →
    f + seen.length = (1 + G.length) * R.length + 1 → seen.Nodup → (∀ y ∈ seen, 0 ≤ y.1 ∧ y.1 < ((1 + G.length : Nat) : Int) ∧ 0 ≤ y.2 ∧ y.2 < (R.length : Nat)) →
    (∀ y ∈ seen, ∃ l, Way m R ⟨p, y.1, y.2⟩ l (.inr ⟨p, x.1, x.2⟩) ∧ ∀ z ∈ l, p <+: z.path) → Ends m R p ⟨p, x.1, x.2⟩ (run R s G f seen ls x).2.1
  | 0, seen, ls, x, hx, hf, nd, hin, hc => by
    have := nodup_pairs nd hin
    omega
  | f + 1, seen, ls, x, hx, hf, nd, hin, hc => by
    rw [run]
    by_cases hm : x ∈ seen
    · rw [if_pos hm]
      obtain ⟨l, w, hl⟩ := hc x hm
      exact Ends.again w hl
    · rw [if_neg hm]
      have here : ∀ y ∈ [(⟨p, x.1, x.2⟩ : Std)], p <+: y.path := fun y hy => by rw [List.mem_singleton.mp hy]; exact List.prefix_refl _
      have dw := deedOf_wf hR hx.2.2.1 hx.2.2.2 s (1 + (G.length : Nat))
      have ws : (wStep m R ⟨p, x.1, x.2⟩) = gStep R s (1 + (bs.length : Nat)) ⟨p, x.1, x.2⟩ := by
        unfold wStep
        simp only [hp]
        rfl
      have lw := legStep_wf (s := s) hR g hx
      have key : (∀ r, (legStep R s G x).2 = .inl r → Ends m R p ⟨p, x.1, x.2⟩ r) ∧ (∀ y, (legStep R s G x).2 = .inr y → ∃ l, Way m R ⟨p, x.1, x.2⟩ l (.inr ⟨p, y.1, y.2⟩) ∧ ∀ z ∈ l, p <+: z.path) := by
        unfold legStep
        simp only [gStep, ← hG] at ws
        simp only
        cases hd : deedOf (R.getD x.2.toNat []) (ruleOf (R.getD x.2.toNat []) s (1 + (G.length : Nat))) with
        | stop v =>
          rw [hd] at ws
          simp only at ws ⊢
          refine ⟨fun r e => ?_, fun y e => (by cases e)⟩
          cases e
          exact ⟨[_], .one (by rw [ws]), here⟩
        | go a b =>
          rw [hd] at dw ws
          obtain ⟨a0, a1, b0, b1⟩ := dw
          have p0 : (0 : Int) < 1 + (G.length : Nat) := by omega
          have m0 := Int.emod_nonneg (x.1 + a) (show (1 : Int) + (G.length : Nat) ≠ 0 by omega)
          have m1 := Int.emod_lt_of_pos (x.1 + a) p0
          simp only at ws ⊢
          generalize (x.1 + a) % (1 + (G.length : Nat)) = o at *
          by_cases z : o = 0
          · rw [if_pos z]
            subst z
            rw [if_neg (by decide)] at ws
            refine ⟨fun r e => ?_, fun y e => (by cases e)⟩
            cases e
            exact ⟨[_], .one (by rw [ws]; rfl), here⟩
          · rw [if_neg z]
            rw [if_pos (by omega)] at ws
            have oi : (((o - 1).toNat : Nat) : Int) + 1 = o := by omega
            have go := ih (o - 1).toNat b (by omega) b0 b1
            rw [oi] at go
            have up : ∀ {l : List Std}, (∀ y ∈ l, p ++ [o] <+: y.path) → ∀ y ∈ (⟨p, x.1, x.2⟩ : Std) :: l, p <+: y.path := fun {l} h y hy => by
              rcases List.mem_cons.mp hy with e | e
              · rw [e]; exact List.prefix_refl _
              · exact (List.prefix_append p [o]).trans (h y e)
            have w1 : (wStep m R ⟨p, x.1, x.2⟩).2 = .inr ⟨p ++ [o], 0, b⟩ := by rw [ws]
            simp only
            cases e3 : (G.getD (o - 1).toNat []).getD b.toNat default with
            | out k =>
              rw [e3] at go
              obtain ⟨l, w, hl⟩ := go
              rw [exitOf_snoc] at w
              refine ⟨fun r e => (by cases e), fun y e => ?_⟩
              cases e
              exact ⟨_, .cons w1 w, up hl⟩
            | stop v =>
              rw [e3] at go
              obtain ⟨l, w, hl⟩ := go
              refine ⟨fun r e => ?_, fun y e => (by cases e)⟩
              cases e
              exact ⟨_, .cons w1 w, up hl⟩
            | ever =>
              rw [e3] at go
              refine ⟨fun r e => ?_, fun y e => (by cases e)⟩
              cases e
              intro n
              obtain ⟨l, y, hn, w, hl⟩ := go n
              exact ⟨_, y, by simp; omega, .cons w1 w, up hl⟩
      split
      · rename_i r e
        exact key.1 r e
      · rename_i y e
        obtain ⟨l, w, hl⟩ := key.2 y e
        refine Ends.behind w hl (run_ends hR g hG hp ih f (seen ++ [x]) _ y (lw.2 y e) (by simp; omega) ?_ ?_ ?_)
        · rw [List.nodup_append]
          exact ⟨nd, by simp, fun a ha b hb q => hm (by rw [← List.mem_singleton.mp hb, ← q]; exact ha)⟩
        · intro z hz
          rcases List.mem_append.mp hz with hz | hz
          · exact hin z hz
          · rw [List.mem_singleton.mp hz]; exact hx
        · intro z hz
          rcases List.mem_append.mp hz with hz | hz
          · obtain ⟨l', w', hl'⟩ := hc z hz
            exact ⟨l' ++ l, w'.app w, fun v hv => (List.mem_append.mp hv).elim (hl' v) (hl v)⟩
          · rw [List.mem_singleton.mp hz]
            exact ⟨l, w, hl⟩
end
mutual
def resB (R : Rob) : Maze → List Res
  | .mk s bs => roomR R s (resBs R bs)
def resBs (R : Rob) : List Maze → List (List Res)
  | [] => []
  | b :: bs => resB R b :: resBs R bs
end
theorem resBs_map (R : Rob) : ∀ bs : List Maze, resBs R bs = bs.map (resB R)
  | [] => rfl
  | b :: bs => by rw [resBs, resBs_map R bs]; rfl
theorem roomR_len (R : Rob) (s : Str) (G : List (List Res)) : (roomR R s G).length = R.length := by simp [roomR]
theorem roomR_get (R : Rob) (s : Str) (G : List (List Res)) {st : Int} (h0 : 0 ≤ st) (h1 : st < R.length) : (roomR R s G).getD st.toNat default = (legs R s G st).2.1 := by
  unfold roomR
  rw [List.getD_eq_getElem?_getD, List.getElem?_map, List.getElem?_range (by omega)]
  simp only [Option.map_some, Option.getD_some]
  rw [show ((st.toNat : Nat) : Int) = st by omega]
theorem resB_wf {R : Rob} (hR : RobWf R) : ∀ (k : Nat) (b : Maze), b.size ≤ k → b.Wf → (resB R b).length = R.length ∧ ∀ r ∈ resB R b, r.Wf R.length
  | 0, b, h, _ => by have := b.size_pos; omega
  | k + 1, .mk s bs, h, w => by
    rw [resB]
    have g : GWf R.length (resBs R bs) := by
      rw [resBs_map]
      rw [Maze.size] at h
      have lt : ∀ {bs : List Maze} {x : Maze}, x ∈ bs → x.size ≤ Maze.sizes bs := fun {bs x} => by
        induction bs with
        | nil => intro h; cases h
        | cons y ys ih =>
          intro h
          rw [Maze.sizes]
          rcases List.mem_cons.mp h with rfl | h
          · omega
          · have := ih h; omega
      refine ⟨by rw [List.length_map]; exact w.two, fun rs hm => ?_, fun rs hm => ?_⟩
      all_goals
        obtain ⟨x, hx, rfl⟩ := List.mem_map.mp hm
        have := lt hx
        obtain ⟨a, c⟩ := resB_wf hR k x (by omega) (w.mem hx)
      · exact a
      · exact c
    refine ⟨roomR_len .., fun r hr => ?_⟩
    unfold roomR at hr
    obtain ⟨i, hi, rfl⟩ := List.mem_map.mp hr
    rw [List.mem_range] at hi
    exact legs_wf hR g (by omega) (by omega)
theorem resBs_g {R : Rob} (hR : RobWf R) {s : Str} {bs : List Maze} (w : (Maze.mk s bs).Wf) : GWf R.length (resBs R bs) := by
  rw [resBs_map]
  refine ⟨by rw [List.length_map]; exact w.two, fun rs hm => ?_, fun rs hm => ?_⟩
  all_goals
    obtain ⟨x, hx, rfl⟩ := List.mem_map.mp hm
    obtain ⟨a, c⟩ := resB_wf hR _ x (Nat.le_refl _) (w.mem hx)
  · exact a
  · exact c
theorem resB_ends {m : Maze} {R : Rob} (hR : RobWf R) : ∀ (k : Nat) (b : Maze) (p : List Int), b.size ≤ k → b.Wf → Maze.at? m p = some b → ∀ st : Int, 0 ≤ st → st < R.length → Ends m R p ⟨p, 0, st⟩ ((resB R b).getD st.toNat default)
  | 0, b, _, h, _, _, _, _, _ => by have := b.size_pos; omega
  | k + 1, .mk s bs, p, h, w, hp, st, h0, h1 => by
    rw [resB, roomR_get R s _ h0 h1]
    have lG : (resBs R bs).length = bs.length := by rw [resBs_map, List.length_map]
    refine run_ends hR (resBs_g hR w) lG hp (fun i st' hi s0 s1 => ?_) _ [] [] (0, st) ⟨by simp, by simp; omega, h0, h1⟩ (by simp) List.nodup_nil (by simp) (by simp)
    have hb : bs[i]? = some bs[i] := List.getElem?_eq_getElem hi
    have e : (resBs R bs).getD i [] = resB R bs[i] := by rw [resBs_map, List.getD_eq_getElem?_getD, List.getElem?_map, hb]; rfl
    rw [e]
    have le : bs[i].size ≤ k := by
      have := (Maze.at_wf (p := [((i : Nat) : Int) + 1]) w (Maze.at_child (m := .mk s bs) (by omega) (by show _ ≤ ((bs.length : Nat) : Int); omega) (by show bs[_]? = _; rw [show (((i : Nat) : Int) + 1 - 1).toNat = i by omega]; exact hb))).2
      simp at this
      omega
    refine resB_ends hR k bs[i] (p ++ [((i : Nat) : Int) + 1]) le (w.mem (List.getElem_mem hi)) ?_ st' s0 s1
    rw [Maze.at_app, hp, Option.bind_some]
    exact Maze.at_child (m := .mk s bs) (by omega) (by show _ ≤ ((bs.length : Nat) : Int); omega) (by show bs[_]? = _; rw [show (((i : Nat) : Int) + 1 - 1).toNat = i by omega]; exact hb)
theorem goOf_res {m : Maze} {R : Rob} (hR : RobWf R) (w : m.Wf) {st : Int} (h0 : 0 ≤ st) (h1 : st < R.length) : (goOf m R st).1 = (resB R m).getD st.toNat default := by
  have h := resB_ends (m := m) hR _ m [] (Nat.le_refl _) w (Maze.at_nil m) st h0 h1
  cases e : (resB R m).getD st.toNat default with
  | out k =>
    rw [e] at h
    obtain ⟨l, a, _⟩ := h
    rw [goOf_way hR w h0 h1 a]
  | stop v =>
    rw [e] at h
    obtain ⟨l, a, _⟩ := h
    rw [goOf_way hR w h0 h1 a]
  | ever =>
    rw [e] at h
    exact goOf_ever fun n => let ⟨l, y, a, b, _⟩ := h n; ⟨l, y, a, b⟩
end PD
namespace PD
open PySem PySem.Spec PyProof.Rows L2
theorem Maze.kid_size {b : Maze} : ∀ {bs : List Maze}, b ∈ bs → b.size ≤ Maze.sizes bs
  | x :: xs, h => by
    rw [Maze.sizes]
    rcases List.mem_cons.mp h with rfl | h
    · omega
    · have := Maze.kid_size h; omega
theorem map_getD_all {α β : Type} [Inhabited α] (f : α → β) (xs : List α) : ((List.range xs.length).map fun i => f (xs.getD i default)) = xs.map f := by
  refine List.ext_getElem (by simp) fun i h1 h2 => ?_
  simp only [List.length_map, List.length_range] at h1
  simp only [List.getElem_map, List.getElem_range]
  rw [List.getD_eq_getElem?_getD, List.getElem?_eq_getElem h1]
  rfl
theorem Maze.at_path {m : Maze} : ∀ {p : List Int} {b : Maze}, m.Wf → Maze.at? m p = some b → ∀ k ∈ p, 1 ≤ k ∧ k ≤ 2
  | [], b, _, _, k, hk => by cases hk
  | j :: p, b, w, h, k, hk => by
    cases m with
    | mk s bs =>
      obtain ⟨m, k1, k2, e, h'⟩ := Maze.at_some h
      have := w.two
      rcases List.mem_cons.mp hk with rfl | hk
      · exact ⟨k1, by omega⟩
      · exact Maze.at_path (w.mem (List.mem_of_getElem? e)) h' k hk
theorem pk_wd {p : List Int} (h : ∀ k ∈ p, 1 ≤ k ∧ k ≤ 2) {L : Nat} (hl : p.length ≤ L) : Wd 1 (6 * L + 3) (pk p) := Wd.tmap (a := 4) (fun k hk => Wd.small (by have := h k hk; omega)) L hl
theorem sat_each {α : Type} {enc : α → PyData} {g : GM} {te : EM} {vs : List Nat} {fr : Fr} {S : Store} {ys : List α} {Q : List PyData → Store → Prop} {X : Exc → Store → Prop} (I : List α → Store → List PyData → Prop) (h0 : I [] S [])
    (hs : ∀ done y rest S acc, ys = done ++ y :: rest → acc.length = done.length → I done S acc → ∃ fr1, g (.d (enc y)) (wipeF fr vs) = some fr1 ∧ (te fr1 S).sat (fun v S2 => ∃ d, v = .d d ∧ I (done ++ [y]) S2 (acc ++ [d])) NoX)
    (hl : ys.length ≤ 1000000) (hf : ∀ S acc, acc.length = ys.length → I ys S acc → Q acc S) : (compF g bYes te vs fr ((ys.map enc).map .d) S []).sat Q X := by
  have sz : sizeLine = 16777216 := sizeLine_eq
  refine sat_comp (fun k S acc => acc.length = k ∧ I (ys.take k) S acc) 0 ⟨rfl, by simpa using h0⟩ (fun k x S acc e h => ?_) fun S acc h => ?_
  · rw [Nat.zero_add] at h ⊢
    obtain ⟨al, hi⟩ := h
    rw [List.getElem?_map, List.getElem?_map] at e
    have hk : k < ys.length := by
      rcases Nat.lt_or_ge k ys.length with q | q
      · exact q
      · rw [List.getElem?_eq_none q] at e; cases e
    rw [List.getElem?_eq_getElem hk] at e
    cases e
    obtain ⟨fr1, e1, h1⟩ := hs (ys.take k) ys[k] (ys.drop (k + 1)) S acc (by rw [← List.drop_eq_getElem_cons hk, List.take_append_drop]) (by rw [List.length_take]; omega) hi
    refine ⟨fr1, e1, ?_⟩
    show (Rs.ok true S).sat _ NoX
    rw [sat_ok, if_pos rfl]
    refine h1.mono (fun v S2 ⟨d, ev, h2⟩ => ⟨d, ev, by omega, by simp [al], ?_⟩) fun _ _ z => z
    rw [List.take_succ, List.getElem?_eq_getElem hk]
    exact h2
  · rw [Nat.zero_add, List.length_map, List.length_map] at h
    refine hf S acc h.1 ?_
    have := h.2
    rwa [List.take_length] at this
end PD
namespace PD
open PySem PySem.Spec PyProof.Rows L2
inductive Leaf where
  | is (R : Rob) (w : Str)
  | meets (R : Rob) (s : Str)
  | uses (R : Rob) (q : Nat) (k : Nat)
  | sees (R : Rob)
  | count (s : Str) (by_ : Int) (left : Int)
  | deep (n : Int)
def Leaf.d : Leaf → PyData
  | .is R w => .tuple [.str "is", robD R, .str w]
  | .meets R s => .tuple [.str "meets", robD R, .str s]
  | .uses R q k => .tuple [.str "uses", robD R, .int (q : Nat), .int (k : Nat)]
  | .sees R => .tuple [.str "sees", robD R]
  | .count s b l => .tuple [.str "count", .str s, .int b, .int l]
  | .deep n => .tuple [.str "deep", .int n]
inductive Say where
  | leaf (l : Leaf)
  | no (a : Say)
  | con (a b : Say)
  | dis (a b : Say)
def Say.d : Say → PyData
  | .leaf l => l.d
  | .no a => .tuple [.str "not", a.d]
  | .con a b => .tuple [.str "and", a.d, b.d]
  | .dis a b => .tuple [.str "or", a.d, b.d]
def Say.leaves : Say → List Leaf
  | .leaf l => [l]
  | .no a => a.leaves
  | .con a b => a.leaves ++ b.leaves
  | .dis a b => a.leaves ++ b.leaves
def Say.deep : Say → Nat
  | .leaf _ => 1
  | .no a => a.deep + 1
  | .con a b => max a.deep b.deep + 1
  | .dis a b => max a.deep b.deep + 1
def Say.nodes : Say → Nat
  | .leaf _ => 0
  | .no a => a.nodes + 1
  | .con a b => a.nodes + b.nodes + 1
  | .dis a b => a.nodes + b.nodes + 1
def Leaf.In (ts ws : List Str) (Rs : List Rob) : Leaf → Prop
  | .is R w => R ∈ Rs ∧ (w ∈ ws ∨ w = "lost" ∨ w = "out" ∨ w = "ever")
  | .meets R s => R ∈ Rs ∧ s ∈ ts
  | .uses R q k => R ∈ Rs ∧ q < R.length ∧ k < (R.getD q []).length
  | .sees R => R ∈ Rs
  | .count s b l => s ∈ ts ∧ 1 ≤ b ∧ b ≤ 4 ∧ 0 ≤ l ∧ l < b
  | .deep n => 1 ≤ n ∧ n ≤ 6
structure Say.In (ts ws : List Str) (Rs : List Rob) (a : Say) : Prop where
  lf : ∀ l ∈ a.leaves, l.In ts ws Rs
  few : a.leaves.length ≤ 3
  dp : a.deep ≤ 4
  nd : a.nodes ≤ 5
theorem Say.pos : ∀ a : Say, 1 ≤ a.leaves.length
  | .leaf _ => by simp [Say.leaves]
  | .no a => pos a
  | .con a b => by have := pos a; simp only [Say.leaves, List.length_append]; omega
  | .dis a b => by have := pos a; simp only [Say.leaves, List.length_append]; omega
end PD
set_option maxHeartbeats 4000000
namespace PD
open PySem PySem.Spec PyProof.Rows L2
def mulW : SV → SV → Store → Rs SV
  | .d (.tuple xs), .d (.int k), S => if (decide (xs.length ≤ 1000) && decide (-1000 ≤ k) && decide (k ≤ 1000)) = true then .ok (.d (.tuple (List.replicate k.toNat xs).flatten)) S else .bad
  | x, y, S => mulV x y S
end PD
namespace PD
open PySem PySem.Spec PyProof.Rows L2
namespace Maze
def mp : Maze → List Int → List Int
  | _, [] => []
  | .mk _ bs, k :: p => (1 + (bs.length : Nat) - k) :: mp (bs.getD (k - 1).toNat default) p
termination_by _ p => p.length
end Maze
end PD
namespace PD
open PySem PySem.Spec PyProof.Rows L2 RZ
section
variable {prog : Program} {w : World} {A : Around} {E : Value → Shared → Prop} {s : Shared}
variable {S z TI TO i1 i2 l1 l2 : Addr} {xs ys : Array Value} {h0 : Heap}
structure ZG (S : Addr) (xs ys : Array Value) (as : List Addr) (h : Heap) : Prop where
  rise : as.Pairwise (· < ·)
  above : ∀ t ∈ as, S < t
  pairs : ∀ (j : Nat) (t : Addr), as[j]? = some t → ∃ x y, xs[j]? = some x ∧ ys[j]? = some y ∧ IsPair h t x y
structure ZSt (S z TI TO i1 i2 l1 l2 : Addr) (xs ys : Array Value) (h0 : Heap) (i : Nat) (as : List Addr) (h : Heap) : Prop where
  ti : IsPair h TI (.ref i1) (.ref i2)
  it1 : h.IsTupleIter i1 l1 i
  it2 : h.IsTupleIter i2 l2 i
  tl1 : h.IsTuple l1 xs
  tl2 : h.IsTuple l2 ys
  len : as.length = i
  g : ZG S xs ys as h
  out : (as = [] ∧ IsZip h z TI TO .none ∧ ∃ a b, IsPair h TO a b) ∨ (∃ T f, T ∈ as ∧ IsZipHeld h z TI TO T f)
  base : ∀ b o, b ≠ S → b ≠ z → b ≠ TO → b ≠ i1 → b ≠ i2 → h0.get? b = some o → h.get? b = some o
structure ZLow (S z TI TO i1 i2 l1 l2 : Addr) : Prop where
  z : z < S
  TI : TI < S
  TO : TO < S
  i1 : i1 < S
  i2 : i2 < S
  l1 : l1 < S
  l2 : l2 < S
theorem ZG.keep {as : List Addr} {h h' : Heap} (g : ZG S xs ys as h) (hk : ∀ b o, S < b → h.get? b = some o → h'.get? b = some o) : ZG S xs ys as h' :=
  ⟨g.rise, g.above, fun j t e => by
    obtain ⟨x, y, a, b, c⟩ := g.pairs j t e
    exact ⟨x, y, a, b, hk t _ (g.above t (List.mem_of_getElem? e)) c⟩⟩
theorem ZG.obj {as : List Addr} {h : Heap} (g : ZG S xs ys as h) {T : Addr} (hT : T ∈ as) : ∃ o, h.get? T = some o := by
  obtain ⟨j, e⟩ := List.getElem?_of_mem hT
  obtain ⟨x, y, _, _, c⟩ := g.pairs j T e
  exact ⟨_, c⟩
theorem ZG.snoc {as : List Addr} {h h' : Heap} {i : Nat} {x y : Value} (g : ZG S xs ys as h) (hl : as.length = i) (hS : S < h.objs.size) (hx : xs[i]? = some x) (hy : ys[i]? = some y) (hp : IsPair h' h.objs.size x y)
    (hk : ∀ b o, S < b → h.get? b = some o → h'.get? b = some o) : ZG S xs ys (as ++ [h.objs.size]) h' := by
  have g' := g.keep hk
  refine ⟨?_, ?_, ?_⟩
  · refine List.pairwise_append.mpr ⟨g.rise, List.pairwise_singleton _ _, fun a ha b hb => ?_⟩
    obtain rfl := List.mem_singleton.mp hb
    obtain ⟨o, e⟩ := g.obj ha
    exact Heap.lt_size e
  · intro t ht
    rcases List.mem_append.mp ht with q | q
    · exact g.above t q
    · obtain rfl := List.mem_singleton.mp q
      exact hS
  · intro j t e
    by_cases hj : j < as.length
    · rw [List.getElem?_append_left hj] at e
      exact g'.pairs j t e
    · rw [List.getElem?_append_right (by omega)] at e
      have hj0 : j - as.length = 0 := by
        cases q : j - as.length with
        | zero => rfl
        | succ m => rw [q] at e; simp at e
      rw [hj0] at e
      simp at e
      subst e
      have : j = i := by omega
      subst this
      exact ⟨x, y, hx, hy, hp⟩
end
section
variable {prog : Program} {w : World} {A : Around} {s : Shared} {R : Result → Shared → Prop}
variable {S z TI TO i1 i2 l1 l2 : Addr} {xs ys : Array Value} {h0 : Heap} {n : Nat}
theorem ZSt.write {i : Nat} {as : List Addr} {h : Heap} {o : Obj → Obj} (lo : ZLow S z TI TO i1 i2 l1 l2) (st : ZSt S z TI TO i1 i2 l1 l2 xs ys h0 i as h) (h' : Heap) (hk : ∀ b o, b ≠ S → h.get? b = some o → h'.get? b = some o) :
    ZSt S z TI TO i1 i2 l1 l2 xs ys h0 i as h' := by
  have nS : ∀ {a : Addr}, a < S → a ≠ S := fun h e => by rw [e] at h; exact Nat.lt_irrefl _ h
  refine ⟨hk _ _ (nS lo.TI) st.ti, st.it1.at fun o e => hk _ _ (nS lo.i1) e, st.it2.at fun o e => hk _ _ (nS lo.i2) e, st.tl1.at fun o e => hk _ _ (nS lo.l1) e, st.tl2.at fun o e => hk _ _ (nS lo.l2) e, st.len,
    st.g.keep fun b o hb e => hk b o (fun q => by rw [q] at hb; exact Nat.lt_irrefl _ hb) e, ?_, fun b o c0 c1 c2 c3 c4 e => hk b o c0 (st.base b o c0 c1 c2 c3 c4 e)⟩
  rcases st.out with ⟨e0, hz, a, b, hTO⟩ | ⟨T, f, hT, hz⟩
  · exact .inl ⟨e0, hk _ _ (nS lo.z) hz, a, b, hk _ _ (nS lo.TO) hTO⟩
  · exact .inr ⟨T, f, hT, hk _ _ (nS lo.z) hz⟩
end
end PD
namespace PD
open PySem PySem.Spec PyProof.Rows L2 RZ
end PD
namespace PD
open PySem PySem.Spec PyProof.Rows L2 RZ
end PD
namespace PD
open PySem PySem.Spec PyProof.Rows L2
abbrev cp (s : Str) : List Nat := s.cps.toList
theorem cp_app (a b : Str) : cp (a ++ b) = cp a ++ cp b := by
  show (a ++ b).cps.toList = _
  rw [Str.cps_append, Array.toList_append]
theorem cp_of (s : String) : cp (Str.ofString s) = s.toList.map Char.toNat := by
  show (Str.ofString s).cps.toList = _
  rw [Str.ofString_eq_toList]
theorem cp_inj {a b : Str} (h : cp a = cp b) : a = b := by
  cases a; cases b
  congr 1
  exact Array.toList_inj.mp h
def lowS (s : Str) : Prop := ∀ c ∈ cp s, 97 ≤ c ∧ c ≤ 122
mutual
def lowD : PyData → Prop
  | .str s => lowS s
  | .list xs => lowDs xs
  | .tuple xs => lowDs xs
  | .dict kvs => kvs = []
  | .none | .bool _ | .int _ => True
def lowDs : List PyData → Prop
  | [] => True
  | x :: xs => lowD x ∧ lowDs xs
end
theorem lowDs_all : ∀ {ds : List PyData}, lowDs ds ↔ ∀ d ∈ ds, lowD d
  | [] => by simp [lowDs]
  | d :: ds => by rw [lowDs, lowDs_all]; simp
def isDig (c : Nat) : Prop := c = 45 ∨ 48 ≤ c ∧ c ≤ 57
def isDl (c : Nat) : Bool := c == 44 || c == 41 || c == 93 || c == 125 || c == 58
theorem low_printable : ∀ c, 97 ≤ c ∧ c ≤ 122 → Unicode.isPrintable c = true := by
  have : (List.range 26).all (fun i => Unicode.isPrintable (97 + i)) = true := by decide +kernel
  rw [List.all_eq_true] at this
  rintro c ⟨h1, h2⟩
  have := this (c - 97) (List.mem_range.mpr (by omega))
  rwa [show 97 + (c - 97) = c by omega] at this
theorem reprChar_low {c : Nat} (h : 97 ≤ c ∧ c ≤ 122) : Builtin.Str.reprChar 39 c = [c] := by
  unfold Builtin.Str.reprChar
  dsimp only
  rw [if_neg (by simp; omega), if_neg (by simp; omega), if_neg (by simp; omega), if_neg (by simp; omega), if_pos (low_printable c h)]
theorem reprText_low {s : Str} (h : lowS s) : cp (reprText s) = 39 :: (cp s ++ [39]) := by
  have q : reprQuote s = 39 := by
    unfold reprQuote
    rw [if_neg]
    intro z
    simp only [Bool.and_eq_true] at z
    have m : 39 ∈ s.cps := by simpa using z.1
    have := h 39 (by simpa using m)
    omega
  unfold reprText
  rw [q]
  show ((s.cps.foldl (fun out c => out ++ (Builtin.Str.reprChar 39 c).toArray) #[39]).push 39).toList = _
  rw [Array.toList_push, ← Array.foldl_toList]
  have : ∀ (l : List Nat) (acc : Array Nat), (∀ c ∈ l, 97 ≤ c ∧ c ≤ 122) → (l.foldl (fun out c => out ++ (Builtin.Str.reprChar 39 c).toArray) acc).toList = acc.toList ++ l := fun l => by
    induction l with
    | nil => intro acc _; simp
    | cons c l ih =>
      intro acc hl
      rw [List.foldl_cons, ih _ fun d hd => hl d (List.mem_cons_of_mem _ hd), reprChar_low (hl c (by simp))]
      simp
  rw [this _ _ h]
  rfl
def numL (i : Int) : List Nat := cp (Str.ofString (toString i))
theorem numL_nat (m : Nat) : numL ((m : Nat) : Int) = (Nat.toDigits 10 m).map Char.toNat := PySem.W.KIN.signs_num m
theorem numL_neg {i : Int} (h : i < 0) : numL i = 45 :: (Nat.toDigits 10 i.natAbs).map Char.toNat := by
  unfold numL
  rw [cp_of, Int.toString_eq_repr, Int.repr_eq_if, if_neg (by omega), String.toList_append, List.map_append]
  have e : (-i).toNat = i.natAbs := by omega
  rw [e, Nat.toList_repr]
  rfl
theorem dig_range (m : Nat) : ∀ c ∈ (Nat.toDigits 10 m).map Char.toNat, 48 ≤ c ∧ c ≤ 57 := fun c h => by
  obtain ⟨d, hd, rfl⟩ := List.mem_map.mp h
  have := Nat.isDigit_of_mem_toDigits (by decide) (by decide) hd
  simp only [Char.isDigit, Bool.and_eq_true, decide_eq_true_eq] at this
  have h1 := UInt32.le_iff_toNat_le.mp this.1
  have h2 := UInt32.le_iff_toNat_le.mp this.2
  have e : d.val.toNat = d.toNat := rfl
  rw [e] at h1 h2
  exact ⟨by simpa using h1, by simpa using h2⟩
theorem dig_ne (m : Nat) : (Nat.toDigits 10 m).map Char.toNat ≠ [] := fun h => by
  have := PySem.W.KIN.val_back m
  rw [h] at this
  by_cases z : m = 0
  · subst z
    revert h
    decide
  · rw [show PySem.NumText.digitsVal [] = 0 from rfl] at this
    omega
theorem numL_range (i : Int) : ∀ c ∈ numL i, isDig c := fun c h => by
  by_cases z : i < 0
  · rw [numL_neg z] at h
    rcases List.mem_cons.mp h with e | h
    · exact .inl e
    · exact .inr (dig_range _ c h)
  · obtain ⟨m, rfl⟩ : ∃ m : Nat, i = m := ⟨i.toNat, by omega⟩
    rw [numL_nat] at h
    exact .inr (dig_range _ c h)
theorem numL_ne (i : Int) : numL i ≠ [] := by
  by_cases z : i < 0
  · rw [numL_neg z]; simp
  · obtain ⟨m, rfl⟩ : ∃ m : Nat, i = m := ⟨i.toNat, by omega⟩
    rw [numL_nat]; exact dig_ne m
theorem numL_inj {i j : Int} (h : numL i = numL j) : i = j := by
  have hd : ∀ (m : Nat) (l : List Nat), (Nat.toDigits 10 m).map Char.toNat ≠ 45 :: l := fun m l e => by
    have := dig_range m 45 (by rw [e]; simp)
    omega
  have dj : ∀ {m n : Nat}, (Nat.toDigits 10 m).map Char.toNat = (Nat.toDigits 10 n).map Char.toNat → m = n := fun {m n} e => by
    rw [← PySem.W.KIN.val_back m, e, PySem.W.KIN.val_back]
  by_cases z : i < 0
  · by_cases y : j < 0
    · rw [numL_neg z, numL_neg y] at h
      have := dj (List.cons.inj h).2
      omega
    · obtain ⟨m, rfl⟩ : ∃ m : Nat, j = m := ⟨j.toNat, by omega⟩
      rw [numL_neg z, numL_nat] at h
      exact absurd h.symm (hd _ _)
  · obtain ⟨m, rfl⟩ : ∃ m : Nat, i = m := ⟨i.toNat, by omega⟩
    by_cases y : j < 0
    · rw [numL_neg y, numL_nat] at h
      exact absurd h (hd _ _)
    · obtain ⟨n, rfl⟩ : ∃ m : Nat, j = m := ⟨j.toNat, by omega⟩
      rw [numL_nat, numL_nat] at h
      rw [dj h]
def Dl (s : List Nat) : Prop := ∀ c, s.head? = some c → isDl c = true
theorem split_dl {a b s t : List Nat} (ha : ∀ c ∈ a, isDl c = false) (hb : ∀ c ∈ b, isDl c = false) (hs : Dl s) (ht : Dl t) (h : a ++ s = b ++ t) : a = b ∧ s = t := by
  induction a generalizing b with
  | nil =>
    cases b with
    | nil => exact ⟨rfl, h⟩
    | cons c b =>
      rw [List.nil_append, List.cons_append] at h
      have := hs c (by rw [h]; rfl)
      rw [hb c (by simp)] at this
      cases this
  | cons c a ih =>
    cases b with
    | nil =>
      rw [List.nil_append, List.cons_append] at h
      have := ht c (by rw [← h]; rfl)
      rw [ha c (by simp)] at this
      cases this
    | cons d b =>
      rw [List.cons_append, List.cons_append] at h
      obtain ⟨e, h⟩ := List.cons.inj h
      obtain ⟨h1, h2⟩ := ih (fun x hx => ha x (by simp [hx])) (fun x hx => hb x (by simp [hx])) h
      exact ⟨by rw [e, h1], h2⟩
def kindC (c : Nat) : Nat := if c = 78 then 0 else if c = 84 ∨ c = 70 then 1 else if c = 45 ∨ (48 ≤ c ∧ c ≤ 57) then 2 else if c = 39 ∨ c = 34 then 3 else if c = 91 then 4 else if c = 40 then 5 else if c = 123 then 6 else 7
def kindD : PyData → Nat
  | .none => 0 | .bool _ => 1 | .int _ => 2 | .str _ => 3 | .list _ => 4 | .tuple _ => 5 | .dict _ => 6
def itemsL (e : Nat) : List (List Nat) → List Nat
  | [] => [e]
  | [x] => x ++ [e]
  | x :: y :: r => x ++ 44 :: 32 :: itemsL e (y :: r)
theorem join_items (e : Nat) : ∀ ts : List Str, cp (Str.join ", " ts) ++ [e] = itemsL e (ts.map cp)
  | [] => rfl
  | [t] => rfl
  | t :: u :: r => by
    show cp (t ++ ", " ++ Str.join ", " (u :: r)) ++ [e] = cp t ++ 44 :: 32 :: itemsL e ((u :: r).map cp)
    rw [cp_app, cp_app, ← join_items e (u :: r)]
    simp [cp_of]
theorem textFrom_items : ∀ (ts : List Str) (k : Nat) (acc : Str), 0 < k → cp (textFrom k acc ts) = cp acc ++ (ts.map fun t => 44 :: 32 :: cp t).flatten
  | [], k, acc, _ => by simp [textFrom]
  | t :: r, k, acc, hk => by
    show cp (textFrom (k + 1) (acc ++ (if k > 0 then ", " else "" : String) ++ t) r) = _
    rw [textFrom_items r (k + 1) _ (by omega), if_pos hk, cp_app, cp_app, cp_of]
    simp
theorem itemsL_flat (e : Nat) : ∀ (x : List Nat) (r : List (List Nat)), itemsL e (x :: r) = x ++ (r.map fun t => 44 :: 32 :: t).flatten ++ [e]
  | x, [] => by simp [itemsL]
  | x, y :: r => by
    rw [itemsL, itemsL_flat e y r]
    simp
theorem list_items (ts : List Str) : cp (listText ts) = 91 :: itemsL 93 (ts.map cp) := by
  unfold listText
  rw [cp_app]
  cases ts with
  | nil => rfl
  | cons t r =>
    show cp (textFrom 1 ("[" ++ (if 0 > 0 then ", " else "" : String) ++ t) r) ++ _ = _
    rw [textFrom_items r 1 _ (by omega), cp_app, cp_app, if_neg (by omega), cp_of, cp_of, cp_of, List.map_cons, itemsL_flat, List.map_map]
    simp [Function.comp_def]
theorem tuple_items (ts : List Str) (h : ts.length ≠ 1) : cp (tupleText ts) = 40 :: itemsL 41 (ts.map cp) := by
  unfold tupleText
  rw [if_neg (by simpa using h), cp_app, cp_app, cp_of, cp_of]
  rw [List.append_assoc, show (")" : String).toList.map Char.toNat = [41] from rfl, join_items]
  rfl
theorem tuple_one (t : Str) : cp (tupleText [t]) = 40 :: (cp t ++ [44, 41]) := by
  show cp (("(" : Str) ++ t ++ (",)" : String)) = _
  rw [cp_app, cp_app, cp_of, cp_of]
  rfl
theorem shownAll_map : ∀ ds : List PyData, PyData.shownAll ds = ds.map PyData.shown
  | [] => rfl
  | d :: ds => by rw [PyData.shownAll, shownAll_map ds]; rfl
theorem head_kind : ∀ (d : PyData), lowD d → ∃ c r, cp d.shown = c :: r ∧ kindC c = kindD d ∧ isDl c = false
  | .none, _ => ⟨78, _, rfl, rfl, rfl⟩
  | .bool true, _ => ⟨84, _, rfl, rfl, rfl⟩
  | .bool false, _ => ⟨70, _, rfl, rfl, rfl⟩
  | .int i, _ => by
    show ∃ c r, numL i = c :: r ∧ _
    cases h : numL i with
    | nil => exact absurd h (numL_ne i)
    | cons c r =>
      have := numL_range i c (by rw [h]; simp)
      refine ⟨c, r, rfl, ?_⟩
      unfold isDig at this
      constructor
      · unfold kindC kindD
        rw [if_neg (by omega), if_neg (by omega), if_pos this]
      · unfold isDl
        simp
        omega
  | .str s, h => by
    show ∃ c r, cp (reprText s) = c :: r ∧ _
    rw [reprText_low h]
    exact ⟨39, _, rfl, rfl, rfl⟩
  | .list xs, _ => by
    show ∃ c r, cp (listText _) = c :: r ∧ _
    rw [list_items]
    exact ⟨91, _, rfl, rfl, rfl⟩
  | .tuple xs, _ => by
    show ∃ c r, cp (tupleText (PyData.shownAll xs)) = c :: r ∧ _
    by_cases h : (PyData.shownAll xs).length = 1
    · match PyData.shownAll xs, h with
      | [t], _ => rw [tuple_one]; exact ⟨40, _, rfl, rfl, rfl⟩
    · rw [tuple_items _ h]
      exact ⟨40, _, rfl, rfl, rfl⟩
  | .dict kvs, _ => by
    show ∃ c r, cp (("{" : Str) ++ Str.join ", " _ ++ "}") = c :: r ∧ _
    rw [cp_app, cp_app, cp_of]
    exact ⟨123, _, rfl, rfl, rfl⟩
inductive Ky : PyData → Prop
  | int (i : Int) : Ky (.int i)
  | str {s : Str} : lowS s → Ky (.str s)
  | tup {xs : List PyData} : (∀ x ∈ xs, Ky x) → Ky (.tuple xs)
def Pre (d : PyData) : Prop := ∀ e s t, lowD e → Dl s → Dl t → cp e.shown ++ s = cp d.shown ++ t → e = d ∧ s = t
theorem dl_cons {c : Nat} {s : List Nat} (h : isDl c = true) : Dl (c :: s) := fun d e => by
  simp at e
  rw [← e]; exact h
theorem items_pre {q : Nat} (hq : isDl q = true) (hq4 : q ≠ 44) : ∀ (ds es : List PyData) (s t : List Nat), (∀ d ∈ ds, Pre d ∧ lowD d) → (∀ e ∈ es, lowD e) → itemsL q (es.map fun d => cp d.shown) ++ s = itemsL q (ds.map fun d => cp d.shown) ++ t → es = ds ∧ s = t
  | [], [], s, t, _, _, h => ⟨rfl, by simpa [itemsL] using h⟩
  | [], e :: es, s, t, _, he, h => by
    obtain ⟨c, r, e1, _, e2⟩ := head_kind e (he e (by simp))
    rw [List.map_cons, itemsL_flat, e1] at h
    have : c = q := by simpa [itemsL] using (congrArg List.head? h)
    rw [this, hq] at e2
    cases e2
  | d :: ds, [], s, t, hd, _, h => by
    obtain ⟨c, r, e1, _, e2⟩ := head_kind d (hd d (by simp)).2
    rw [List.map_cons, itemsL_flat, e1] at h
    have : q = c := by simpa [itemsL] using (congrArg List.head? h)
    rw [← this, hq] at e2
    cases e2
  | [d], [e], s, t, hd, he, h => by
    simp only [List.map_cons, List.map_nil, itemsL, List.append_assoc, List.cons_append, List.nil_append] at h
    obtain ⟨a, b⟩ := (hd d (by simp)).1 e _ _ (he e (by simp)) (dl_cons hq) (dl_cons hq) h
    exact ⟨by rw [a], (List.cons.inj b).2⟩
  | [d], e :: f :: es, s, t, hd, he, h => by
    simp only [List.map_cons, List.map_nil, itemsL, List.append_assoc, List.cons_append, List.nil_append] at h
    obtain ⟨a, b⟩ := (hd d (by simp)).1 e _ _ (he e (by simp)) (dl_cons (by decide)) (dl_cons hq) h
    exact absurd (List.cons.inj b).1.symm hq4
  | d :: g :: ds, [e], s, t, hd, he, h => by
    simp only [List.map_cons, List.map_nil, itemsL, List.append_assoc, List.cons_append, List.nil_append] at h
    obtain ⟨a, b⟩ := (hd d (by simp)).1 e _ _ (he e (by simp)) (dl_cons hq) (dl_cons (by decide)) h
    exact absurd (List.cons.inj b).1 hq4
  | d :: g :: ds, e :: f :: es, s, t, hd, he, h => by
    simp only [List.map_cons, itemsL, List.append_assoc, List.cons_append] at h
    obtain ⟨a, b⟩ := (hd d (by simp)).1 e _ _ (he e (by simp)) (dl_cons (by decide)) (dl_cons (by decide)) h
    have b2 := (List.cons.inj (List.cons.inj b).2).2
    obtain ⟨u, v⟩ := items_pre hq hq4 (g :: ds) (f :: es) s t (fun x hx => hd x (by simp at hx ⊢; right; exact hx)) (fun x hx => he x (by simp at hx ⊢; right; exact hx)) (by simpa using b2)
    exact ⟨by rw [a, u], v⟩
theorem Ky.low {d : PyData} (h : Ky d) : lowD d := by
  induction h with
  | int i => trivial
  | str h => exact h
  | tup h ih => exact lowDs_all.mpr ih
theorem kind_eq {d e : PyData} {s t : List Nat} (hd : lowD d) (he : lowD e) (h : cp e.shown ++ s = cp d.shown ++ t) : kindD e = kindD d := by
  obtain ⟨c, r, e1, k1, _⟩ := head_kind d hd
  obtain ⟨c', r', e2, k2, _⟩ := head_kind e he
  rw [e1, e2] at h
  rw [← k1, ← k2, (List.cons.inj h).1]
theorem Ky.pre {d : PyData} (h : Ky d) : Pre d := by
  induction h with
  | int i =>
    intro e s t he hs ht h
    have k := kind_eq (d := .int i) trivial he h
    cases e <;> simp [kindD] at k
    rename_i j
    have nd : ∀ i : Int, ∀ c ∈ numL i, isDl c = false := fun i c hc => by
      have := numL_range i c hc
      unfold isDig at this
      unfold isDl
      simp
      omega
    obtain ⟨a, b⟩ := split_dl (a := numL j) (b := numL i) (nd j) (nd i) hs ht h
    exact ⟨by rw [numL_inj a], b⟩
  | @str u hu =>
    intro e s t he hs ht h
    have k := kind_eq (d := .str u) hu he h
    cases e <;> simp [kindD] at k
    rename_i v
    have h : cp (reprText v) ++ s = cp (reprText u) ++ t := h
    have nd : ∀ u : Str, lowS u → ∀ c ∈ cp (reprText u), isDl c = false := fun u hu c hc => by
      rw [reprText_low hu] at hc
      simp at hc
      unfold isDl
      rcases hc with rfl | hc | rfl
      · rfl
      · have := hu c (by simpa using hc)
        simp
        omega
      · rfl
    obtain ⟨a, b⟩ := split_dl (nd v he) (nd u hu) hs ht h
    rw [reprText_low he, reprText_low hu] at a
    have := List.append_cancel_right (List.cons.inj a).2
    exact ⟨by rw [cp_inj this], b⟩
  | @tup xs hx ih =>
    intro e s t he hs ht h
    have k := kind_eq (d := .tuple xs) (Ky.tup hx).low he h
    cases e <;> simp [kindD] at k
    rename_i ys
    have hy : ∀ y ∈ ys, lowD y := lowDs_all.mp he
    have h : cp (tupleText (PyData.shownAll ys)) ++ s = cp (tupleText (PyData.shownAll xs)) ++ t := h
    have mm : ∀ zs : List PyData, (PyData.shownAll zs).map cp = zs.map fun d => cp d.shown := fun zs => by rw [shownAll_map, List.map_map]; rfl
    have xl : ∀ x ∈ xs, Pre x ∧ lowD x := fun x h => ⟨ih x h, (hx x h).low⟩
    by_cases l1 : xs.length = 1
    · obtain ⟨x, rfl⟩ := List.length_eq_one_iff.mp l1
      rw [show PyData.shownAll [x] = [x.shown] from rfl, tuple_one] at h
      have hx1 := xl x (by simp)
      by_cases l2 : ys.length = 1
      · obtain ⟨y, rfl⟩ := List.length_eq_one_iff.mp l2
        rw [show PyData.shownAll [y] = [y.shown] from rfl, tuple_one] at h
        simp only [List.cons_append, List.append_assoc, List.nil_append] at h
        obtain ⟨a, b⟩ := hx1.1 y _ _ (hy y (by simp)) (dl_cons (by decide)) (dl_cons (by decide)) (List.cons.inj h).2
        exact ⟨by rw [a], by simpa using b⟩
      · rw [tuple_items (PyData.shownAll ys) (by rw [shownAll_map]; simpa using l2), mm] at h
        match ys, l2, hy with
        | [], _, _ =>
          obtain ⟨c, r, e1, _, e2⟩ := head_kind x hx1.2
          rw [e1] at h
          have : 41 = c := by simpa [itemsL] using (congrArg (fun l => l.tail.head?) h)
          rw [← this] at e2
          exact absurd e2 (by decide)
        | y :: z :: r, _, hy =>
          simp only [List.map_cons, itemsL, List.cons_append, List.append_assoc, List.nil_append] at h
          obtain ⟨a, b⟩ := hx1.1 y _ _ (hy y (by simp)) (dl_cons (by decide)) (dl_cons (by decide)) (List.cons.inj h).2
          have := (List.cons.inj (List.cons.inj b).2).1
          omega
    · rw [tuple_items (PyData.shownAll xs) (by rw [shownAll_map]; simpa using l1), mm] at h
      by_cases l2 : ys.length = 1
      · obtain ⟨y, rfl⟩ := List.length_eq_one_iff.mp l2
        rw [show PyData.shownAll [y] = [y.shown] from rfl, tuple_one] at h
        have hy1 := hy y (by simp)
        match xs, l1, xl with
        | [], _, _ =>
          obtain ⟨c, r, e1, _, e2⟩ := head_kind y hy1
          rw [e1] at h
          have : c = 41 := by simpa [itemsL] using (congrArg (fun l => l.tail.head?) h)
          rw [this] at e2
          exact absurd e2 (by decide)
        | x :: z :: r, _, xl =>
          simp only [List.map_cons, itemsL, List.cons_append, List.append_assoc, List.nil_append] at h
          obtain ⟨a, b⟩ := (xl x (by simp)).1 y _ _ hy1 (dl_cons (by decide)) (dl_cons (by decide)) (List.cons.inj h).2
          have := (List.cons.inj (List.cons.inj b).2).1
          omega
      · rw [tuple_items (PyData.shownAll ys) (by rw [shownAll_map]; simpa using l2), mm] at h
        simp only [List.cons_append] at h
        obtain ⟨a, b⟩ := items_pre (q := 41) (by decide) (by decide) xs ys s t xl hy (List.cons.inj h).2
        exact ⟨by rw [a], b⟩
end PD
namespace PD
open PySem PySem.Spec PyProof.Rows L2
end PD
namespace PD
open PySem PySem.Spec PyProof.Rows L2 PySem.Froz
def keyS (e : Int × Value) : Str := match e.2 with
  | .str k _ => k
  | _ => default
structure TxR (P : Program) (w : World) (h : Heap) (a : Addr) (D : SD) (l : List Str) : Prop where
  ob : h.get? a = some (sObj "set" D)
  ok : TxOk P w D l
  ris : Ris D.2.2.place.toList
  led : w.params.followText "set-order" = true ∨ D.2.2.led = true
  keys : (D.1.toList.map keyS).Perm l
  alls : ∀ e ∈ D.1.toList, ∃ k tk, e.2 = Value.str k tk
theorem TxR.on {P : Program} {w : World} {h h' : Heap} {a : Addr} {D : SD} {l : List Str} (R : TxR P w h a D l) (ha : ∀ o, h.get? a = some o → h'.get? a = some o) : TxR P w h' a D l := { R with ob := ha _ R.ob }
theorem TxR.new {P : Program} {w : World} {h : Heap} {a : Addr} (ho : h.get? a = some (set0 w)) : TxR P w h a (#[], 0, .fresh 0 0 (!w.params.followText "set-order")) [] where
  ob := ho
  ok := TxOk.nil rfl
  ris := .nil
  led := by
    show _ ∨ (!w.params.followText "set-order") = true
    cases w.params.followText "set-order" <;> simp
  keys := .nil
  alls := fun e h => by simp at h
structure HasT (ks : List Str) (i : Nat) (L : List Str) : Prop where
  mem : ∀ p, p ∈ L ↔ p ∈ ks.take i
  nd : L.Nodup
  len : L.length ≤ i
theorem HasT.nil {ks : List Str} : HasT ks 0 [] := ⟨fun p => by simp, List.nodup_nil, Nat.le_refl _⟩
theorem HasT.next {ks L L' : List Str} {i : Nat} {x : Str} (g : HasT ks i L) (h : ks[i]? = some x) (old : x ∈ L → L' = L) (new : x ∉ L → L' = x :: L) : HasT ks (i + 1) L' := by
  have tk : ks.take (i + 1) = ks.take i ++ [x] := by rw [List.take_succ, h]; rfl
  by_cases hm : x ∈ L
  · rw [old hm]
    refine ⟨fun p => ?_, g.nd, Nat.le_succ_of_le g.len⟩
    rw [tk, List.mem_append, List.mem_singleton, ← g.mem]
    exact ⟨.inl, fun h => h.elim id fun e => by rw [e]; exact hm⟩
  · rw [new hm]
    refine ⟨fun p => ?_, List.nodup_cons.mpr ⟨hm, g.nd⟩, Nat.succ_le_succ g.len⟩
    rw [tk, List.mem_append, List.mem_singleton, ← g.mem, List.mem_cons]
    exact Or.comm
theorem vals_strs : ∀ {ks : List Str} {us : List Value} {i : Nat} {v : Value}, Vals (ks.map V.str) us → us[i]? = some v → ∃ p tk, ks[i]? = some p ∧ v = .str p tk
  | [], _, i, v, .nil, h => by simp at h
  | k :: ks, _, 0, v, .cons r t, h => by
    obtain ⟨tk, e⟩ := r
    simp at h
    exact ⟨k, tk, rfl, by rw [← h, e]⟩
  | k :: ks, _, i + 1, v, .cons r t, h => by
    simp at h
    obtain ⟨p, tk, e1, e2⟩ := vals_strs t h
    exact ⟨p, tk, by simpa using e1, e2⟩
section
variable {P : Program} {w : World} {A : Around} {E : Value → Shared → Prop} {s : Shared}
theorem addTx_place {D : SD} {h : Int} {v : Value} (r : Ris D.2.2.place.toList) (l : w.params.followText "set-order" = true ∨ D.2.2.led = true) :
    Ris (addTx h v D).2.2.place.toList ∧ (w.params.followText "set-order" = true ∨ (addTx h v D).2.2.led = true) ∧ (addTx h v D).1.toList.Perm (D.1.push (h, v)).toList := by
  obtain ⟨es, ep, t⟩ := D
  have r1 := layNew_ris t es h v r
  have l1 := layNew_led t es h v
  have p1 := layNew_perm t es h v
  unfold addTx tailTx
  generalize layNew t es h v = Z at r1 l1 p1 ⊢
  obtain ⟨es1, t1, wd, gv⟩ := Z
  dsimp only at r1 l1 p1 ⊢
  have t2r : Ris (if t1.plain = true then { t1 with plain := false } else t1).place.toList := by split <;> exact r1
  have t2l : (if t1.plain = true then { t1 with plain := false } else t1).led = t.led := by split <;> exact l1
  generalize (if t1.plain = true then { t1 with plain := false } else t1) = t2 at t2r t2l ⊢
  split
  · exact ⟨relayAll_ris t2 es1 _, l.imp id (fun z => by rw [relayAll_led, t2l]; exact z), (relayAll_perm t2 es1 _).trans p1⟩
  · exact ⟨t2r, l.imp id (fun z => by rw [t2l]; exact z), p1⟩
theorem addT {a : Addr} {D : SD} {l : List Str} {k : Str} {u : Tok} {Q : Bool → Shared → Prop} (R : TxR P w s.heap a D l) (hb : l.length + 1 < scanBound)
    (hQ : ∀ b h' D' l', Heap.SameBut a s.heap h' → TxR P w h' a D' l' → (k ∈ l → l' = l) → (k ∉ l → l' = k :: l) → Q b { s with heap := h' }) :
    wpAny (model P w) A (setAddHashed a (.str k u) (hashStr w k)) Q E s := by
  by_cases hk : k ∈ l
  · obtain ⟨es, ep, t⟩ := D
    have ho := R.ob
    have F := R.ok
    have hd : (sObj "set" (es, ep, t)).data = .set es ep t := rfl
    have hf : t.fits es.size = true := F.fit
    have hel : ElemsOf (strKind P w) es.toList := F.el
    have hsz : es.size = l.length := F.sz
    have hb0 : es.size < scanBound := by omega
    have hkey : (strKind P w).is k (.str k u) = true := is_str k u
    unfold setAddHashed setAddHashedIn
    refine wpAny_holding (wpAny_bind (wpAny_setState_of ho hd hf ?_))
    dsimp only
    rw [byScan_of rfl hb0 hel]
    simp only [↓reduceIte]
    unfold setAddByScan
    refine wpAny_bind ?_
    refine wpAny_bind (wpAny_rule ?_)
    refine wpAny_bind (wpAny_setScan_of (knd := strKind P w) (k := k) hkey ho hd hf hel ?_)
    cases hfi : List.findIdx? (fun e => (strKind P w).is k e.2) es.toList with
    | none =>
      exfalso
      obtain ⟨e, he, q⟩ := (F.mem k).mp hk
      have c := List.findIdx?_eq_none_iff.mp hfi e he
      rw [q] at c
      cases c
    | some j =>
      dsimp only
      refine wpAny_pure (wpAny_pure ?_)
      exact hQ _ s.heap (es, ep, t) l (Heap.SameBut.refl a s.heap) R (fun _ => rfl) fun z => absurd hk z
  · obtain ⟨c1, c2, c3⟩ := addTx_place (h := hashStr w k) (v := .str k u) R.ris R.led
    refine add_x R.ob R.ok hk hb (hQ true _ _ (k :: l) ⟨?_, fun b hb => Heap.get?_update_ne _ _ _ _ hb⟩ ⟨get_upd _ R.ob rfl, add_ok u R.ok, c1, c2, ?_, fun e he => ?_⟩ (fun z => absurd z hk) fun _ => rfl)
    · first | rw [Heap.size_update] | (rw [Heap.size_update]; exact Nat.le_refl _) | simp
    · refine (c3.map keyS).trans ?_
      rw [Array.toList_push, List.map_append]
      exact (List.perm_append_singleton _ _).trans (R.keys.cons k)
    · have := c3.mem_iff.mp he
      rw [Array.toList_push] at this
      rcases List.mem_append.mp this with h | h
      · exact R.alls e h
      · rw [List.mem_singleton.mp h]
        exact ⟨k, u, rfl⟩
theorem fill_txt {I : Addr} {fp wr : List Addr} {G : Array GenState → Array GenState → Prop} {n : Nat} {Pv : Nat → Value → Prop} {St : Nat → Shared → Prop} {R : Result → Shared → Prop}
    (W : WalksS P w A.in1 I fp wr G n Pv St) (S : Addr) (hSf : S ∉ fp) (ks : List Str) (hn : n = ks.length) (hfew : ks.length + 1 < scanBound) (hval : ∀ i v, Pv i v → ∃ p tk, ks[i]? = some p ∧ v = .str p tk)
    (h0 : Heap) (hS0 : h0.get? S = none) (hw0 : ∀ b ∈ wr, h0.get? b = none) :
    ∀ (k i : Nat) (s : Shared), n - i = k → i ≤ n → St i s → (∀ b o, h0.get? b = some o → s.heap.get? b = some o) → (∃ L D, TxR P w s.heap S D L ∧ HasT ks i L) →
      (∀ s' L D, Moved (S :: wr) G s s' → TxR P w s'.heap S D L → HasT ks n L → (∀ b o, h0.get? b = some o → s'.heap.get? b = some o) → R (.ok (.ret .none)) s') →
      codeAny (model P w) A (.builtin "set.update.loop" ⟨[.ref S, .ref I], []⟩) R s := by
  have nw : S ∉ wr := fun h => hSf (W.sub _ h)
  have up : ∀ b ∈ wr, b ∈ S :: wr := fun b hb => List.mem_cons_of_mem _ hb
  have old : ∀ {s s' : Shared}, Moved wr G s s' → (∀ b o, h0.get? b = some o → s.heap.get? b = some o) → ∀ b o, h0.get? b = some o → s'.heap.get? b = some o := fun hm hkp b o e =>
    hm.heap b o (fun hb => by rw [hw0 b hb] at e; cases e) (hkp b o e)
  intro k
  induction k with
  | zero =>
    intro i s hk' hi hst hkp ⟨L, D, hS, g⟩ hR
    obtain rfl : i = n := by omega
    refine codeAny_builtin F.entry_set_update_loop ?_
    rw [Around.under_plainId F.plain_set_update_loop _]
    refine wpAny_bind (m := pyNext (.ref I)) (W.done s _ _ hst fun s' hm => ?_)
    have hkp' := old hm hkp
    exact wpAny_pure (hR s' L D (hm.mono up) (hS.on (fun o e => hm.heap S o nw e)) g hkp')
  | succ k ih =>
    intro i s hk' hi hst hkp ⟨L, D, hS, g⟩ hR
    have lt : i < n := by omega
    refine codeAny_builtin F.entry_set_update_loop ?_
    rw [Around.under_plainId F.plain_set_update_loop _]
    refine wpAny_bind (m := pyNext (.ref I)) (W.item i s _ _ lt hst fun v s' hP hst' hm => ?_)
    obtain ⟨p, tk, hp, rfl⟩ := hval i v hP
    have hkp' := old hm hkp
    have hS' : TxR P w s'.heap S D L := hS.on (fun o e => hm.heap S o nw e)
    refine wpAny_bind (m := holding [Value.str p tk] (setAdd S (.str p tk))) (wpAny_holding ?_)
    unfold setAdd
    refine wpAny_holding (wpAny_bind ((strKind P w).pyHash (is_str p tk) ?_))
    refine addT (s := { s' with toks := s'.toks + 1 }) hS' (by have := g.len; omega) fun b h' D' L' hsb hS2 c1 c2 => ?_
    have hkp2 : ∀ b o, h0.get? b = some o → h'.get? b = some o := fun b o e => (hsb.2 b (fun z => by rw [z, hS0] at e; cases e)).trans (hkp' b o e)
    refine wpAny_pure ⟨plainId_quiet F.plain_set_update_loop _, ih (i + 1) _ (by omega) lt (W.frame _ s' _ _ hst' (Nat.le_add_right _ _) fun b hb o e => ?_) hkp2 ⟨L', D', hS2, g.next hp c1 c2⟩ fun s'' L2 D2 hm'' hS'' g'' hkp'' => ?_⟩
    · rw [hsb.2 b (fun h : b = S => hSf (by rw [← h]; exact hb))]
      exact e
    · refine hR s'' L2 D2 (Moved.trans W.gtrans ((hm.mono up).then_heap (Nat.le_add_right _ _) fun b o hb e => ?_) hm'') hS'' g'' hkp''
      rw [hsb.2 b (fun h : b = S => hb (by rw [h]; exact List.mem_cons_self))]
      exact e
set_option maxHeartbeats 3200000 in
theorem set_callT {l : Addr} {items : Array Value} (ks : List Str) {Q : Value → Shared → Prop} (hh : A.handled = none) (hl : s.heap.IsList l items) (hit : Vals (ks.map V.str) items.toList)
    (hfew : ks.length + 1 < scanBound)
    (h : ∀ (h' : Heap) (tk : Nat) L D, TxR P w h' s.heap.objs.size D L → HasT ks ks.length L → (∀ b o, s.heap.get? b = some o → h'.get? b = some o) → Q (.ref s.heap.objs.size) { s with heap := h', toks := tk }) :
    wpAny (model P w) A (call (.type "set") [.ref l]) Q E s := by
  have hisz : items.size = ks.length := by
    have q := hit.length
    simpa using q.symm
  let a := s.heap.objs.size
  let hs := s.heap.push (set0 w)
  obtain ⟨c, tl, hmro⟩ := F.called_set.mro
  have m1 := F.called_set.made
  have m2 := F.called_set.sub
  refine wpAny_call (codeAny_of_tree ?_)
  show wpAny _ _ (callAny (.type "set") _) _ _ _
  refine wpAny_pure ⟨Code.quiet_builtin _ (by decide +kernel), codeAny_builtin F.entry_type_call ?_⟩
  rw [Around.under_plain (weight_type_call_type "set" [.ref l] []) rfl]
  have h1 := F.called_set.notType
  have h2 := F.called_set.canCreate
  have hct := F.typeCall_set_1 (.ref l)
  repeat (any_goals (first | assumption | wp_step))
  refine codeAny_mono (code_set_led1 (.ref l) (E := E) (Q₁ := fun obj s₁ => obj = .ref s.heap.objs.size ∧ s₁ = { s with heap := s.heap.push (set0 w) }) ⟨rfl, rfl⟩) fun r s₁ hr => ?_
  cases r with
  | error e => exact hr
  | ok fl =>
    cases fl with
    | ret obj =>
      obtain ⟨rfl, rfl⟩ := hr
      have hS : (s.heap.push (set0 w)).get? s.heap.objs.size = some (set0 w) := Heap.get?_push_size _ rfl
      have hT : Shared.TypeIs { s with heap := s.heap.push (set0 w) } (.ref s.heap.objs.size) "set" := ⟨_, hS, rfl⟩
      have hli := F.called_set.init.lookup
      have hbi := F.called_set.init.bind (.ref s.heap.objs.size)
      repeat (any_goals (first | assumption | wp_step))
      refine codeAny_mono (codeAny_call_builtin (R := wants (fun r s₂ => r = .none ∧ ∃ h' tk L D, s₂ = { s with heap := h', toks := tk } ∧ TxR P w h' s.heap.objs.size D L ∧ HasT ks ks.length L ∧
          (∀ b o, s.heap.get? b = some o → h'.get? b = some o)) E) F.called_set.init.plain F.entry_set_init (check_set_init_1 hT ?_)) fun r₂ s₂ hr₂ => ?_
      · obtain ⟨ol, hol, hcl, nl, hdl⟩ := hl
        obtain ⟨ocls, odict, odata, oslots⟩ := ol
        simp only at hcl hdl
        subst hcl
        subst hdl
        have hol' : (s.heap.push (set0 w)).get? l = some { cls := .type "list", dict := odict, data := .seq items nl, slots := oslots } := Heap.get?_push_of_some _ hol
        have s1 := F.sub_list_set
        have s2 := F.sub_list_frozenset
        have s3 : (Value.type "list" == Value.type "dict") = false := by decide
        have hl1 : (s.heap.push (set0 w)).IsList l items := ⟨_, hol', rfl, nl, rfl⟩
        unfold Builtin.«set.__init__» noKeywords Builtin.Frozenset.updateFrom
        generalize hPI : pyIter = PI
        wp_walk
        subst hPI
        refine wpAny_pyIter_list hl1 (wpAny_bind (wpAny_runValue ?_))
        have hlS : l < s.heap.objs.size := Heap.lt_size hol
        have hneI : l ≠ (s.heap.push (set0 w)).objs.size := by
          rw [Heap.size_push]
          exact Nat.ne_of_lt (Nat.lt_succ_of_lt hlS)
        have hSf : s.heap.objs.size ∉ [(s.heap.push (set0 w)).objs.size, l] := by
          rw [Heap.size_push]
          simp only [List.mem_cons, List.not_mem_nil, or_false, not_or]
          exact ⟨Nat.ne_of_lt (Nat.lt_succ_self _), Nat.ne_of_gt hlS⟩
        have hval : ∀ (i : Nat) (v : Value), items[i]? = some v → ∃ p tk, ks[i]? = some p ∧ v = .str p tk := fun i v hv => by
          have q : items.toList[i]? = some v := by simpa using hv
          exact vals_strs hit q
        have none_of : ∀ b, s.heap.objs.size ≤ b → s.heap.get? b = none := fun b hb => by
          cases q : s.heap.get? b with
          | none => rfl
          | some o => exact absurd (Nat.lt_of_lt_of_le (Heap.lt_size q) hb) (Nat.lt_irrefl _)
        refine fill_txt ((Walks.list (A := A.in1.in1.in1) (by simp [hh]) _ l hneI items).toS) s.heap.objs.size hSf ks hisz hfew hval s.heap (none_of _ (Nat.le_refl _)) (fun b hb => none_of b (by
            rw [List.mem_singleton.mp hb, Heap.size_push]
            exact Nat.le_succ _)) (items.size - 0) 0 _ (by omega) (Nat.zero_le _)
          ⟨⟨_, Heap.get?_push_size _ rfl, rfl, rfl⟩, (hl1.push _)⟩ (fun b o e => Heap.get?_push_of_some _ (Heap.get?_push_of_some _ e)) ⟨[], _, TxR.new (Heap.get?_push_of_some _ hS), HasT.nil⟩ ?_
        intro s' L D hm hS' g' hkp
        obtain ⟨h', g2, d', tk', os'⟩ := s'
        have eg : g2 = s.gens := hm.gens
        have ed : d' = s.drawn := hm.drawn
        have eo : os' = s.os := hm.os
        subst eg
        subst ed
        subst eo
        rw [hisz] at g'
        show wpAny _ _ _ _ _ _
        refine wpAny_pure ?_
        show wpAny _ _ (ret Value.none) _ _ _
        exact wpAny_pure ⟨rfl, h', tk', L, D, rfl, hS', g', hkp⟩
      · cases r₂ with
        | error e => exact hr₂
        | ok fl₂ =>
          cases fl₂ with
          | ret r =>
            obtain ⟨rfl, h', tk, L, D, rfl, hS', g', hk'⟩ := hr₂
            repeat (any_goals (first | assumption | wp_step))
            exact h _ _ _ _ hS' g' hk'
          | _ => exact hr₂.elim
    | _ => exact hr.elim
end
end PD
namespace PD
open PySem PySem.Spec PyProof.Rows L2 PySem.Froz
section
variable {P : Program} {w : World} {A : Around} {E : Value → Shared → Prop} {s : Shared}
def keyV (v : Value) : Str := match v with
  | .str k _ => k
  | _ => default
theorem sorted_callT {a : Addr} {D : SD} {L : List Str} (R : TxR P w s.heap a D L) (hh : A.handled = none) (hfew : L.length + 1 < scanBound)
    (hu : A.units + 3 < cLine) {Q : Value → Shared → Prop}
    (hQ : ∀ s' p (out : Array Value) (c : Nat) (L' : List Str), (∀ b o, s.heap.get? b = some o → s'.heap.get? b = some o) → s'.gens = s.gens → s'.os = s.os → s.heap.objs.size ≤ p → s'.heap.get? p = some (seqObj "list" out c) →
      L'.Perm L → Vals ((L'.mergeSort (PySem.W.dataLe false PyData.str)).map V.str) out.toList → Q (.ref p) s') :
    wpAny (model P w) A (call (.builtin "sorted") [.ref a]) Q E s := by
  obtain ⟨es, ep, t⟩ := D
  have ho := R.ob
  have hd : (sObj "set" (es, ep, t)).data = .set es ep t := rfl
  have sz : es.size = L.length := R.ok.sz
  refine PySem.Calls.call_function_entry kind_sorted plain_sorted entry_sorted (args_sorted1 _) ?_
  unfold Builtin.«sorted»
  refine wpAny_bind (m := checkCount "sorted" 1 1 _) (wpAny_pure ?_)
  refine wpAny_bind (collect_set (A := A.in1) hh ⟨_, ho, rfl, hd⟩ R.ok.fit (by omega) R.ris R.led fun s1 vs k1 hz g1 o1 pm => ?_)
  have av : ∀ v ∈ vs, ∃ k tk, v = Value.str k tk := fun v hv => by
    obtain ⟨e, he, rfl⟩ := List.mem_map.mp (pm.mem_iff.mp hv)
    exact R.alls e he
  have pk : (vs.map keyV).Perm L := by
    refine (pm.map keyV).trans ?_
    rw [List.map_map]
    exact R.keys
  have hlen : vs.length = L.length := by rw [← pk.length_eq, List.length_map]
  have hl2 : vs.length ≤ sizeLine := by
    rw [sizeLine_eq, hlen]
    unfold scanBound at hfew
    omega
  refine wpAny_bind (wpAny_newList ?_ hl2)
  have hoL : (s1.heap.push (seqObj "list" vs.toArray 0)).get? s1.heap.objs.size = some (seqObj "list" vs.toArray 0) := Heap.get?_push_size _ rfl
  have al : PySem.W.AllAlike (vs.map fun v => PyData.str (keyV v)) := fun d hd d' hd' => by
    obtain ⟨v, _, rfl⟩ := List.mem_map.mp hd
    obtain ⟨v', _, rfl⟩ := List.mem_map.mp hd'
    rfl
  have so : PySem.W.Sortable (vs.map fun v => PyData.str (keyV v)) := .inr fun d hd => by
    obtain ⟨v, _, rfl⟩ := List.mem_map.mp hd
    exact ⟨(by intro z; cases z), (fun xs z => by cases z)⟩
  have er : PySem.W.EachIs (fun v (b : Value) => ∃ as, Reads (PySem.W.sortingHeap (s1.heap.push (seqObj "list" vs.toArray 0)) s1.heap.objs.size vs) v (PyData.str (keyV b)) as) vs vs := by
    have : ∀ us : List Value, (∀ v ∈ us, ∃ k tk, v = Value.str k tk) → PySem.W.EachIs (fun v (b : Value) => ∃ as, Reads (PySem.W.sortingHeap (s1.heap.push (seqObj "list" vs.toArray 0)) s1.heap.objs.size vs) v (PyData.str (keyV b)) as) us us := fun us => by
      induction us with
      | nil => exact fun _ => .nil
      | cons u us ih =>
        intro h
        obtain ⟨k, tk, rfl⟩ := h u List.mem_cons_self
        exact .cons ⟨_, .str k tk⟩ (ih fun v hv => h v (List.mem_cons_of_mem _ hv))
    exact this vs av
  refine wpAny_bind (wpAny_holding (wpAny_call_entry slot_list_sort ⟨_, hoL, rfl⟩ entry_list_sort ?body (args_list_sort _)))
  case body =>
    refine PySem.W.list_sort_vals (κ := PySem.W.dataKind (PySem.W.sortingHeap (s1.heap.push (seqObj "list" vs.toArray 0)) s1.heap.objs.size vs) (vs.map fun v => PyData.str (keyV v))) (s := { s1 with heap := s1.heap.push (seqObj "list" vs.toArray 0) }) hoL
      (PySem.W.SortsAt.data (s := { s1 with heap := PySem.W.sortingHeap (s1.heap.push (seqObj "list" vs.toArray 0)) s1.heap.objs.size vs }) (PySem.W.each_map (fun v : Value => PyData.str (keyV v)) er) al so fun d hd => ?_) hl2 ⟨.none, rfl, ?_⟩
    · obtain ⟨v, hv, rfl⟩ := List.mem_map.mp hd
      show A.units + 1 + 1 + 0 < cLine
      omega
    · refine wpAny_pure ⟨_, rfl, ?_⟩
      have se := PySem.W.sortVals_data (R := fun v (b : Value) => v = b) false (by
        have := each_map_self (f := fun b : Value => b) vs
        rw [List.map_id'] at this
        exact this) er al
      obtain ⟨c, hc⟩ := sortedHeap_at (vs := vs) (out := (PySem.W.sortVals (PySem.W.dataKind (PySem.W.sortingHeap (s1.heap.push (seqObj "list" vs.toArray 0)) s1.heap.objs.size vs) (vs.map fun v => PyData.str (keyV v))) false vs vs).toArray) hoL
      have se2 := each_is_map (f := fun b : Value => b) se
      rw [List.map_id'] at se2
      refine hQ _ _ _ c (vs.map keyV) (fun b u e => ?_) g1 o1 hz hc pk ?_
      · have q := k1 b u e
        have lt := Heap.lt_size q
        show (sortedHeap (s1.heap.push (seqObj "list" vs.toArray 0)) s1.heap.objs.size vs _).get? b = some u
        rw [sortedHeap_old (Nat.ne_of_lt lt) (by rw [size_push']; exact Nat.lt_succ_of_lt lt)]
        exact Heap.get?_push_of_some _ q
      · rw [List.toList_toArray, se2]
        have e1 : (vs.map keyV).mergeSort (PySem.W.dataLe false PyData.str) = (vs.mergeSort (PySem.W.dataLe false fun v => PyData.str (keyV v))).map keyV := (PySem.W.sort_maps (fun v : Value => keyV v) fun a _ b _ => rfl).symm
        rw [e1]
        have : ∀ us : List Value, (∀ v ∈ us, ∃ k tk, v = Value.str k tk) → Vals ((us.map keyV).map V.str) us := fun us => by
          induction us with
          | nil => exact fun _ => .nil
          | cons u us ih =>
            intro h
            obtain ⟨k, tk, rfl⟩ := h u List.mem_cons_self
            exact .cons ⟨tk, rfl⟩ (ih fun v hv => h v (List.mem_cons_of_mem _ hv))
        exact this _ fun v hv => av v ((List.mergeSort_perm _ _).mem_iff.mp hv)
end
def setTO (P : Program) (w : World) (a : Addr) (L : List Str) : HO := .ext fun h => ∃ D, TxR P w h a D L
def rSetT (X : Cx) : List V → Hp → VK → Prop := fun xs H Q => ∃ (l : Addr) (ts : List Str), xs = [.ref l] ∧ SqL X.K H l (ts.map V.str) ∧ ts.length < 64 ∧
  ∀ a L, H a = none → (∀ p, p ∈ L ↔ p ∈ ts) → L.Nodup → L.length < 64 → Q (.ref a) (upd H a (setTO X.prog X.w a L))
theorem call_setT {X : Cx} (hc : X.calm = true) : CallR X (.type "set") (rSetT X) := by
  intro pins s σ H xs us Q I r h
  obtain ⟨l, ts, rfl, hl, hf, q⟩ := h
  rw [Vals.ref1 r]
  obtain ⟨its, rv, pl, hz⟩ := I.list hl
  have hn : H s.heap.objs.size = none := I.hok.fresh (Nat.le_refl _)
  refine set_callT (P := X.prog) (w := X.w) ts (I.ok.hd hc) pl.isList (by simpa using rv) (by unfold scanBound; omega) fun h' tk L D R g k => ?_
  refine ⟨.ref s.heap.objs.size, upd H s.heap.objs.size (setTO X.prog X.w s.heap.objs.size L), I.laid (t' := tk) k (Nat.le_refl _) ?_, rfl, q _ L hn (fun p => by rw [g.mem, List.take_length]) g.nd (by have := g.len; omega)⟩
  refine ⟨⟨D, R⟩, ⟨_, R.ob⟩, fun h1 h2 p k => ?_⟩
  obtain ⟨D', R'⟩ := p
  exact ⟨D', R'.on k⟩
def rSortT (X : Cx) : List V → Hp → VK → Prop := fun xs H Q => ∃ a L, xs = [.ref a] ∧ H a = some (setTO X.prog X.w a L) ∧ L.length < 64 ∧
  ∀ (p : Addr) (L' : List Str), L'.Perm L → H p = none → Q (.ref p) (upd H p (.lst ((L'.mergeSort (PySem.W.dataLe false PyData.str)).map V.str)))
theorem call_sortT {X : Cx} (hc : X.calm = true) (hu : X.A.units + 200 < cLine) : CallR X (.builtin "sorted") (rSortT X) := by
  intro pins s σ H xs us Q I r h
  obtain ⟨a, L, rfl, ha, hf, q⟩ := h
  rw [Vals.ref1 r]
  obtain ⟨D, R⟩ := (I.hok a _ ha).1
  refine sorted_callT R (I.ok.hd hc) (by unfold scanBound; omega) (by omega) fun s' p out c L' k g o hp hg pm hv => ?_
  have hn : H p = none := I.hok.fresh hp
  have hlen : ((L'.mergeSort (PySem.W.dataLe false PyData.str)).map V.str).length ≤ sizeLine := by
    rw [List.length_map, List.length_mergeSort, pm.length_eq, sizeLine_eq]
    omega
  exact ⟨.ref p, upd H p (.lst ((L'.mergeSort (PySem.W.dataLe false PyData.str)).map V.str)), I.call' (ch := []) o (Un.laid k hp hn) (I.hok.laid k hp ⟨hlen, out.toList, c, hv, hg⟩) (by rw [g]; exact I.bare) (fun _ z => nomatch z), rfl, q p L' pm hn⟩
def sortSetT : SV → Store → Rs SV
  | .d (.list ds), S => match strsOf ds with
    | some ts => if ts.length < 64 then .ok (.d (.list (dsort (ddup ds)))) S else .bad
    | none => .bad
  | _, _ => .bad
theorem strs_of : ∀ {ds : List PyData} {ts : List Str}, strsOf ds = some ts → ds = ts.map PyData.str
  | [], ts, h => by cases h; rfl
  | .str x :: r, ts, h => by
    cases hr : strsOf r with
    | none => simp [strsOf, hr] at h
    | some zs =>
      have : x :: zs = ts := by simpa [strsOf, hr] using h
      rw [← this, strs_of hr]
      rfl
  | .none :: _, _, e => by simp [strsOf] at e
  | .bool _ :: _, _, e => by simp [strsOf] at e
  | .int _ :: _, _, e => by simp [strsOf] at e
  | .list _ :: _, _, e => by simp [strsOf] at e
  | .tuple _ :: _, _, e => by simp [strsOf] at e
  | .dict _ :: _, _, e => by simp [strsOf] at e
theorem txt_keyed (ts : List Str) : ∀ d ∈ ts.map PyData.str, keyed d := fun d hd => by
  obtain ⟨t, _, rfl⟩ := List.mem_map.mp hd
  exact ⟨.text t, rfl⟩
theorem txt_alike (ts : List Str) : PySem.W.AllAlike (ts.map PyData.str) := fun d hd d' hd' => by
  obtain ⟨v, _, rfl⟩ := List.mem_map.mp hd
  obtain ⟨v', _, rfl⟩ := List.mem_map.mp hd'
  rfl
theorem txt_perm {L ts : List Str} (h : ∀ p, p ∈ L ↔ p ∈ ts) (nd : L.Nodup) : (L.map PyData.str).Perm (ddup (ts.map PyData.str)) := by
  obtain ⟨m, nd2⟩ := ddup_spec (txt_keyed ts)
  have nd1 : (L.map PyData.str).Nodup := by
    rw [List.Nodup, List.pairwise_map] at *
    exact nd.imp fun ne e => ne (by injection e)
  refine (List.perm_ext_iff_of_nodup nd1 nd2).mpr fun d => ?_
  rw [m, List.mem_map, List.mem_map]
  exact ⟨fun ⟨p, hp, e⟩ => ⟨p, (h p).mp hp, e⟩, fun ⟨p, hp, e⟩ => ⟨p, (h p).mpr hp, e⟩⟩
section
variable {X : Cx} {W : WX} {O : Own} {pos : Pos}
def tStT (X : Cx) (W : WX) (O : Own) (m : EM) : TA := fun σ H Q => ∃ fr S G, Rel (.of X) O σ H fr S G ∧ Pst (.of X) W O σ H fr G (m fr S) (fun G' H' v us => ∃ (a : Addr) (L ts : List Str), us = [V.ref a] ∧ v = .d (.list (ts.map PyData.str)) ∧ H' a = some (setTO X.prog X.w a L) ∧ (∀ p, p ∈ L ↔ p ∈ ts) ∧ L.Nodup ∧ L.length < 64) Q
def setTV : SV → Store → Rs SV
  | .d (.list ds), S => match strsOf ds with
    | some ts => if ts.length < 64 then .ok (.d (.list ds)) S else .bad
    | none => .bad
  | _, _ => .bad
theorem pa_setT {e : Expr} {m : EM} {q : Pos} (hc : X.calm = true) (hm : X.mg "set" = none) (he : CV X W O e m) (hg : Gl X "set" := by rfl) (hs : starEach [e] X.env = (false, eval e X.env) :: starEach [] X.env := by rfl)
    (hs2 : starEach [Expr.Call (.Name "set" q) [e] [] pos] X.env = (false, eval (Expr.Call (.Name "set" q) [e] [] pos) X.env) :: starEach [] X.env := by rfl) : PA X [.Call (.Name "set" q) [e] [] pos] (tStT X W O (e1 setTV m)) :=
  paI (pa_cons (pe_callTy (call_setT hc) hg hm bt_set (cav_cons he cav_nil hs) (by decide) (by decide) hs (by rfl)) pa_nil hs2) fun σ H Q ⟨fr, S, G, R, h⟩ => ⟨fr, S, G, R, Pst.split (f := fun xs S1 => match xs with | [x] => setTV x S1 | _ => .bad) (r := aC m aN fr S) ⟨fun z => h.good (by
      revert z
      unfold e1 aC aN
      cases m fr S <;> simp [Rs.bind]), fun z S' e => h.ok z S' (by
      revert e
      unfold e1 aC aN
      cases m fr S <;> simp [Rs.bind]), fun x S' e => h.exc x S' (by
      revert e
      unfold e1 aC aN
      cases m fr S <;> simp [Rs.bind])⟩ fun xs S1 us H1 G1 R1 st1 rs h1 => by
    split at h1
    · obtain ⟨u, rfl, ru⟩ := rs.one
      unfold setTV at h1
      split at h1
      · obtain ⟨_, _, rfl, q1, r1⟩ := ru.lst
        split at h1
        · rename_i ts hts
          split at h1
          · rename_i few
            obtain rfl := strs_rel r1 hts
            refine ⟨_, ts, rfl, SqL.of q1, few, fun a L ha hs nd few => ?_⟩
            obtain ⟨B, st⟩ := R1.base.newT (o := setTO X.prog X.w a L) ha
            exact h1.ok _ _ rfl _ _ G1 (R1.step st B) st ⟨a, L, ts, rfl, by rw [strs_of hts], upd_same, hs, nd, few⟩
          · exact h1.not_bad.elim
        · exact h1.not_bad.elim
      · exact h1.not_bad.elim
    · exact h1.not_bad.elim⟩
theorem cn_sortsetT {k : Nat} {e : Expr} {m : EM} {q q2 p2 : Pos} (hc : X.calm = true) (hr : Room k X.A) (hm : X.mg "sorted" = none) (hm2 : X.mg "set" = none) (he : CV X W O e m) (hg : Gl X "sorted" := by rfl) (hg2 : Gl X "set" := by rfl) (hs : starEach [e] X.env = (false, eval e X.env) :: starEach [] X.env := by rfl)
    (hs2 : starEach [Expr.Call (.Name "set" q2) [e] [] p2] X.env = (false, eval (Expr.Call (.Name "set" q2) [e] [] p2) X.env) :: starEach [] X.env := by rfl) : CN X W O (.Call (.Name "sorted" q) [.Call (.Name "set" q2) [e] [] p2] [] pos) (e1 sortSetT m) :=
  peI (pe_callB (call_sortT hc (by have := hr.un; omega)) hg hm bt_sorted (pa_setT hc hm2 he hg2 hs hs2) (by decide) (by decide) hs2 (by rfl)) fun σ H Q ⟨fr, S, G, R, h⟩ => ⟨fr, S, G, R, by
    have h2 : Pst (.of X) W O σ H fr G ((e1 setTV m fr S).bind fun v S1 => match v with | .d (.list ds) => .ok (.d (.list (dsort (ddup ds)))) S1 | _ => .bad) (fun G' H' v u => ∃ a, u = V.ref a ∧ Tmp (.of X) H a v G' H') Q := by
      have e0 : ((e1 setTV m fr S).bind fun v S1 => match v with | .d (.list ds) => Rs.ok (.d (.list (dsort (ddup ds)))) S1 | _ => .bad) = e1 sortSetT m fr S := by
        unfold e1
        cases m fr S with
        | ok v S1 =>
          show ((setTV v S1).bind _) = sortSetT v S1
          cases v with
          | d x =>
            cases x with
            | list ds =>
              unfold setTV sortSetT
              dsimp only
              cases strsOf ds with
              | none => rfl
              | some ts =>
                dsimp only
                by_cases h1 : ts.length < 64
                · rw [if_pos h1, if_pos h1]
                  rfl
                · rw [if_neg h1, if_neg h1]
                  rfl
            | _ => rfl
          | _ => rfl
        | exc x S1 => rfl
        | bad => rfl
      rw [e0]
      exact h
    refine h2.split fun v S1 us H1 G1 R1 st1 ⟨a, L, ts, e1, e2, e3, e4, nd, e6⟩ h3 => ?_
    subst e1 e2
    dsimp only at h3
    refine ⟨a, L, rfl, e3, e6, fun p L' pm hp => ?_⟩
    have pp : (L'.map PyData.str).Perm (ddup (ts.map PyData.str)) := (pm.map _).trans (txt_perm e4 nd)
    have e7 : (L'.mergeSort (PySem.W.dataLe false PyData.str)).map PyData.str = dsort (ddup (ts.map PyData.str)) := by
      have : (L'.mergeSort (PySem.W.dataLe false PyData.str)).map PyData.str = dsort (L'.map PyData.str) := PySem.W.sort_maps PyData.str fun a _ b _ => rfl
      rw [this]
      exact dsort_eq pp (txt_keyed L') (txt_alike L')
    have r : RpAll (.of X) G1.F H1 (dsort (ddup (ts.map PyData.str))) ((L'.mergeSort (PySem.W.dataLe false PyData.str)).map V.str) := by
      rw [← e7]
      have : ∀ zs : List Str, RpAll (.of X) G1.F H1 (zs.map PyData.str) (zs.map V.str) := fun zs => by
        induction zs with
        | nil => exact .nil
        | cons z zs ih => exact .cons (.str z) ih
      exact this _
    exact tmp_fin R1 st1 hp r ⟨h3.good, h3.ok, h3.exc⟩⟩
end
end PD
namespace PD
open PySem PySem.Spec PyProof.Rows L2
def putS (f : Str) (v : SV) : List (Str × SV) → List (Str × SV)
  | [] => [(f, v)]
  | (g, x) :: r => if g = f then (g, v) :: r else (g, x) :: putS f v r
section
variable {M : Mo} {G : Gh} {H : Hp}
theorem RpF.put {f : Str} {x : SV} {u : V} (q : RpS M G H x u) : ∀ {fs : List (Str × SV)} {vs : List (Str × V)}, RpF M G H fs vs → RpF M G H (putS f x fs) (putF f u vs)
  | _, _, .nil => .cons ⟨rfl, q⟩ .nil
  | (g, y) :: fs, (g', w) :: vs, .cons ⟨e, r⟩ t => by
    have e : g = g' := e
    subst e
    show RpF M G H (if g = f then (g, x) :: fs else (g, y) :: putS f x fs) (if g = f then (g, u) :: vs else (g, w) :: putF f u vs)
    by_cases z : g = f
    · rw [if_pos z, if_pos z]; exact .cons ⟨rfl, q⟩ t
    · rw [if_neg z, if_neg z]; exact .cons ⟨rfl, r⟩ (RpF.put q t)
theorem RpF.look {f : Str} : ∀ {fs : List (Str × SV)} {vs : List (Str × V)}, RpF M G H fs vs → (∀ v, fs.lookup f = some v → ∃ u, vs.lookup f = some u ∧ RpS M G H v u) ∧ (fs.lookup f = none → vs.lookup f = none)
  | _, _, .nil => ⟨fun v e => by simp at e, fun _ => rfl⟩
  | (g, y) :: fs, (g', w) :: vs, .cons ⟨e, r⟩ t => by
    have e : g = g' := e
    subst e
    obtain ⟨h1, h2⟩ := RpF.look (f := f) t
    simp only [List.lookup_cons]
    cases z : (f == g)
    · exact ⟨h1, h2⟩
    · exact ⟨fun v e => ⟨w, rfl, by cases e; exact r⟩, fun e => by cases e⟩
theorem RpF.len {fs : List (Str × SV)} {vs : List (Str × V)} (h : RpF M G H fs vs) : fs.length = vs.length := Paired.length h
end
structure ClsM (K : PySem.W.Frag) (mg : Str → Option Value) (C : Str) (ca : Addr) : Prop where
  nm : mg C = some (.ref ca)
  cl : Cls K ca
abbrev HasNo (K : PySem.W.Frag) (ca : Addr) (f : Str) : Prop := NoAttr K ca f
def insOf (C : Str) (o : SV) (S : Store) : Option (Nat × List (Str × SV)) := match o with
  | .obj r => (match S[r]? with
    | some (.ins D fs) => if D = C then some (r, fs) else none
    | _ => none)
  | _ => none
def fldV (C f : Str) (o : SV) (S : Store) : Rs SV := match insOf C o S with
  | some (_, fs) => (match fs.lookup f with
    | some v => .ok v S
    | none => .bad)
  | none => .bad
def eFld (C f : Str) (m : EM) : EM := fun fr S => (m fr S).bind fun o S1 => fldV C f o S1
def sFldS (C f : Str) (mv mo : EM) : SM := fun fr S => (mv fr S).toS fr fun v S1 => (mo fr S1).toS fr fun o S2 => match insOf C o S2 with
  | some (r, fs) => if fs.length < 900 then .nx fr (S2.set r (.ins C (putS f v fs))) else .bad
  | none => .bad
theorem insOf_at {M : Mo} {H : Hp} {S : Store} {G : Gh} {C : Str} {ca : Addr} {o : SV} {u : V} {r : Nat} {fs : List (Str × SV)} (B : Base M H S G) (nm : M.mg C = some (.ref ca)) (e : insOf C o S = some (r, fs)) (q : RpS M G H o u) :
    ∃ a dx vs, o = .obj r ∧ S[r]? = some (.ins C fs) ∧ u = .ref a ∧ G.rho[r]? = some a ∧ H a = some (.ins ca dx vs) ∧ RpF M G H fs vs := by
  unfold insOf at e
  split at e
  · rename_i r'
    split at e
    · rename_i D fs' hs
      split at e
      · rename_i hD
        subst hD
        cases e
        obtain ⟨a, eu, ⟨ca', dx, vs, e1, e2, rr⟩, hr⟩ := B.store_at hs q
        rw [nm] at e1
        cases e1
        exact ⟨a, dx, vs, rfl, hs, eu, hr, e2, rr⟩
      · cases e
    · cases e
  · cases e
section
variable {X : Cx} {W : WX} {L O : Own} {pos pos' : Pos} {e : Expr} {C f : Str} {ca : Addr}
theorem ce_fld {m : EM} (c : ClsM X.K X.mg C ca) (n : HasNo X.K ca f) (he : CE X W O e m) (hb : attributeBase e f X.env (eval e X.env) = eval e X.env := by rfl) : CE X W O (.Attribute e f pos) (eFld C f m) :=
  peI (pe_fld he hb) fun σ H Q ⟨fr, S, G, R, h⟩ => ⟨fr, S, G, R, h.split fun o S1 u H1 G1 R1 st1 ro h1 => by
    unfold fldV at h1
    split at h1
    · rename_i r fs hi
      split at h1
      · rename_i v hv
        obtain ⟨a, dx, vs, eo, hs, rfl, hr, ha, rr⟩ := insOf_at R1.base c.nm hi ro
        obtain ⟨w, hw, rw'⟩ := (RpF.look (f := f) rr).1 v hv
        exact ⟨a, ca, dx, vs, w, rfl, ha, c.cl, n, hw, h1.here R1 rw'⟩
      · exact h1.not_bad.elim
    · exact h1.not_bad.elim⟩
theorem cs_fld {o value : Expr} {mv mo : EM} (c : ClsM X.K X.mg C ca) (n : HasNo X.K ca f) (hv : CE X W O value mv) (ho : CE X W O o mo) (hs : swapsWith value (some (.Attribute o f pos')) pos.line X.env = pure false := by rfl) :
    CS X W L O (.Assign [.Attribute o f pos'] value pos) (sFldS C f mv mo) O := by
  refine psI (ps_fld ho hv hs) fun D σ H ⟨fr, S, G, R, h⟩ => ⟨fr, S, G, R, h.expr R fun v S1 u H1 G1 R1 st1 a1 rv h1 => ⟨fr, S1, G1, R1, h1.expr R1 fun o S2 ou H2 G2 R2 st2 a2 ro h2 => ?_⟩⟩
  split at h2
  · rename_i r fs hi
    split at h2
    · rename_i hl
      obtain ⟨a, dx, vs, eo, hs, rfl, hr, ha, rr⟩ := insOf_at R2.base c.nm hi ro
      have rv2 := R1.base.rps st2 rv
      obtain ⟨R3, a3⟩ := R2.storeSet (o := .ins C (putS f v fs)) (ho := .ins ca dx (putF f u vs)) hr fun k => ⟨ca, dx, _, c.nm, upd_same, RpF.put (RpS.keep k ⟨[], by simp⟩ rv2) (RpF.keep k ⟨[], by simp⟩ rr)⟩
      exact ⟨a, ca, dx, vs, rfl, ha, c.cl, n, by rw [← rr.len]; omega, h2.nx _ _ rfl _ _ G2 R3 a3⟩
    · exact (h2.good rfl).elim
  · exact (h2.good rfl).elim
end
def eMeth (C m : Str) (n : Nat) (F : FN) (mo : EM) (ma : AM) : EM := fun fr S => (mo fr S).bind fun o S1 => match insOf C o S1 with
  | some (_, fs) => if (fs.lookup m).isNone = true then (ma fr S1).bind fun xs S2 => if xs.length = n then F (o :: xs) S2 else .bad else .bad
  | none => .bad
section
variable {X : Cx} {W : WX} {L O : Own} {pos apos : Pos} {e o : Expr} {es : List Expr} {C m : Str} {ca g : Addr} {k : Nat} {fd : FuncData} {ps : List Str}
theorem pe_methG {sp : Sp} {to : TE} {t : TA} {pl : Sem Bool} (he : PE X o to) (c : Cls X.K ca) (hm : Meth X.K ca m g) (F : FnG X.prog X.w X.K X.mg X.base k g fd ps sp) (hr : Room k X.A) (hgd : Gd X.base X.A) (hb : Binds X.K fd ps []) (tk : Lets X W) (ha : PA X (e :: es) t)
    (hst : starEach (e :: es) X.env = (false, eval e X.env) :: starEach es X.env := by rfl) (hpl : (backTo pos (starEach es X.env)).any (·.1) = false := by rfl)
    (ht : eval (.Call (.Attribute o m apos) (e :: es) [] pos) X.env = (do
      let ov ← eval o X.env
      standAt apos.atName
      let (f, first) ← holding [ov] (getMethod ov m pl)
      callWith pos f first (backTo pos (starEach (e :: es) X.env)) (backToKw pos (keywordEach [] X.env))) := by rfl) :
    PE X (.Call (.Attribute o m apos) (e :: es) [] pos) (fun σ H Q => to σ H fun x H1 => ∃ a dx fs, x = .ref a ∧ H1 a = some (.ins ca dx fs) ∧ fs.lookup m = none ∧ t σ H1 fun vs H2 => sp (x :: vs) H2 Q (WE W σ)) := by
  refine ⟨fun pins s σ H Q I h => PySem.W.methodCall_KW (pl := pl) (thn (he.run pins s σ H _ I h) fun u s1 ⟨x, H1, I1, rx, a, dx, fs, ex, ea, l, q⟩ => ?_) ht⟩
  subst ex
  obtain rfl : u = Value.ref a := rx
  refine getmeth_ok I1 ea c hm l ?_
  refine PySem.W.callWith_K (h₀ := X.base) (first := [.ref a]) I1.ok.mod.kin hm.kp (thn (ha.run pos pins s1 σ H1 _ I1 q) fun us s2 ⟨vs, H2, I2, r, q2⟩ => ⟨I2.kIn, ?_⟩) hst hpl
  exact run_g (us := .ref a :: us) (vs := V.ref a :: vs) F hr hgd hb .nil tk I2 (.cons rfl r) (by rw [List.append_nil]; exact q2)
theorem pe_methG0 {sp : Sp} {to : TE} {pl : Sem Bool} (he : PE X o to) (c : Cls X.K ca) (hm : Meth X.K ca m g) (F : FnG X.prog X.w X.K X.mg X.base k g fd ps sp) (hr : Room k X.A) (hgd : Gd X.base X.A) (hb : Binds X.K fd ps []) (tk : Lets X W)
    (ht : eval (.Call (.Attribute o m apos) [] [] pos) X.env = (do
      let ov ← eval o X.env
      standAt apos.atName
      let (f, first) ← holding [ov] (getMethod ov m pl)
      callWith pos f first (backTo pos (starEach [] X.env)) (backToKw pos (keywordEach [] X.env))) := by rfl) :
    PE X (.Call (.Attribute o m apos) [] [] pos) (fun σ H Q => to σ H fun x H1 => ∃ a dx fs, x = .ref a ∧ H1 a = some (.ins ca dx fs) ∧ fs.lookup m = none ∧ sp [x] H1 Q (WE W σ)) := by
  refine ⟨fun pins s σ H Q I h => PySem.W.methodCall_KW (pl := pl) (thn (he.run pins s σ H _ I h) fun u s1 ⟨x, H1, I1, rx, a, dx, fs, ex, ea, l, q⟩ => ?_) ht⟩
  subst ex
  obtain rfl : u = Value.ref a := rx
  refine getmeth_ok I1 ea c hm l ?_
  exact PySem.W.callWith_K0 (first := [.ref a]) I1.kIn hm.kp (run_g (us := [.ref a]) (vs := [.ref a]) F hr hgd hb .nil tk I1 (.cons rfl .nil) q)
theorem ce_meth {n : Nat} {F : FN} {mo : EM} {ma : AM} {pl : Sem Bool} (c : ClsM X.K X.mg C ca) (hm : Meth X.K ca m g) (Fn : FnG X.prog X.w X.K X.mg X.base k g fd ps (spOf (.of X) (n + 1) F)) (hr : Room k X.A) (hgd : Gd X.base X.A) (hb : Binds X.K fd ps []) (tk : Lets X W)
    (ho : CE X W O o mo) (ha : CA X W O (e :: es) ma) (hst : starEach (e :: es) X.env = (false, eval e X.env) :: starEach es X.env := by rfl) (hpl : (backTo pos (starEach es X.env)).any (·.1) = false := by rfl)
    (ht : eval (.Call (.Attribute o m apos) (e :: es) [] pos) X.env = (do
      let ov ← eval o X.env
      standAt apos.atName
      let (f, first) ← holding [ov] (getMethod ov m pl)
      callWith pos f first (backTo pos (starEach (e :: es) X.env)) (backToKw pos (keywordEach [] X.env))) := by rfl) :
    CE X W O (.Call (.Attribute o m apos) (e :: es) [] pos) (eMeth C m n F mo ma) :=
  peI (pe_methG (pl := pl) ho c.cl hm Fn hr hgd hb tk ha hst hpl ht) fun σ H Q ⟨fr, S, G, R, h⟩ => ⟨fr, S, G, R, h.split fun ov S1 u H1 G1 R1 st1 ro h1 => by
    split at h1
    · rename_i r fs hi
      split at h1
      · rename_i hn
        obtain ⟨a, dx, vs, eo, hs, rfl, hr', hH, rr⟩ := insOf_at R1.base c.nm hi ro
        refine ⟨a, dx, vs, rfl, hH, (RpF.look (f := m) rr).2 (by simpa using hn), fr, S1, G1, R1, h1.split fun xs S2 us H2 G2 R2 st2 rs h2 => ?_⟩
        by_cases hl : xs.length = n
        · rw [if_pos hl] at h2
          exact sp_of R2 (.cons (R1.base.rps st2 ro) rs) (by simp [hl]) h2
        · rw [if_neg hl] at h2
          exact h2.not_bad.elim
      · exact h1.not_bad.elim
    · exact h1.not_bad.elim⟩
theorem ce_meth0 {F : FN} {mo : EM} {pl : Sem Bool} (c : ClsM X.K X.mg C ca) (hm : Meth X.K ca m g) (Fn : FnG X.prog X.w X.K X.mg X.base k g fd ps (spOf (.of X) 1 F)) (hr : Room k X.A) (hgd : Gd X.base X.A) (hb : Binds X.K fd ps []) (tk : Lets X W)
    (ho : CE X W O o mo)
    (ht : eval (.Call (.Attribute o m apos) [] [] pos) X.env = (do
      let ov ← eval o X.env
      standAt apos.atName
      let (f, first) ← holding [ov] (getMethod ov m pl)
      callWith pos f first (backTo pos (starEach [] X.env)) (backToKw pos (keywordEach [] X.env))) := by rfl) :
    CE X W O (.Call (.Attribute o m apos) [] [] pos) (eMeth C m 0 F mo aN) :=
  peI (pe_methG0 (pl := pl) ho c.cl hm Fn hr hgd hb tk ht) fun σ H Q ⟨fr, S, G, R, h⟩ => ⟨fr, S, G, R, h.split fun ov S1 u H1 G1 R1 st1 ro h1 => by
    split at h1
    · rename_i r fs hi
      split at h1
      · rename_i hn
        obtain ⟨a, dx, vs, eo, hs, rfl, hr', hH, rr⟩ := insOf_at R1.base c.nm hi ro
        refine ⟨a, dx, vs, rfl, hH, (RpF.look (f := m) rr).2 (by simpa using hn), ?_⟩
        exact sp_of R1 (.cons ro .nil) rfl h1
      · exact h1.not_bad.elim
    · exact h1.not_bad.elim⟩
end
def eMake (C : Str) (n : Nat) (F : FN) (ma : AM) : EM := fun fr S => (ma fr S).bind fun xs S1 => if xs.length = n then (F (.obj S1.length :: xs) (S1 ++ [.ins C []])).bind fun v S2 => match v with
  | .d .none => .ok (.obj S1.length) S2
  | _ => .bad else .bad
theorem gd_make {base : Heap} {A : Around} {C : Addr} {us : List Value} {ks : List (Str × Value)} (h : Gd base A) : Gd base (A.under (.builtin "type.__call__" ⟨.ref C :: us, ks⟩)) := ⟨by
  have := h.1
  first
    | (simp [Around.under, Code.guards, Code.isGuard, guardIds, pushGuards, this]; done)
    | (simp [Around.under, this]; done)
    | (unfold Around.under; rw [this]; rfl), h.2⟩
section
variable {X : Cx} {W : WX} {L O : Own} {p pos : Pos} {e : Expr} {es : List Expr} {C : Str} {ca g : Addr} {k : Nat} {fd : FuncData} {ps : List Str}
theorem run_makeG {sp : Sp} {pins : List (Addr × Obj)} {σ : L2.St} {H : Hp} {s : Shared} {Q : VK} {us : List Value} {vs : List V} (M : Mk X.K ca g) (F : FnG X.prog X.w X.K X.mg X.base k g fd ps sp) (hr : Room (k + 1) X.A) (hgd : Gd X.base X.A) (hb : Binds X.K fd ps []) (tk : Lets X W)
    (I : Inv X pins σ H s) (r : Vals vs us)
    (h : ∀ x dx, H x = none → H dx = none → dx ≠ x → sp (.ref x :: vs) (upd (upd H dx (.own x)) x (.ins ca dx [])) (fun v H2 => v = .non ∧ Q (.ref x) H2) (WE W σ)) :
    wpAny (model X.prog X.w) X.A (call (.ref ca) us) (EP X pins σ Q) X.xe s := by
  have wish := h (s.heap.objs.size + 1) s.heap.objs.size (I.hok.fresh (Nat.le_succ _)) (I.hok.fresh (Nat.le_refl _)) (Nat.ne_of_lt (Nat.lt_succ_self _))
  have J := Inv.made (C := ca) I
  have rs : Vals (V.ref (s.heap.objs.size + 1) :: vs) (Value.ref (s.heap.objs.size + 1) :: us) := .cons rfl r
  have hl : (Value.ref (s.heap.objs.size + 1) :: us ++ []).length = ps.length := by
    rw [List.append_nil]
    exact rs.length.symm.trans (F.len _ _ _ _ wish)
  have hbb := hb _ (Value.ref (s.heap.objs.size + 1) :: us) J.kIn hl
  rw [List.append_nil] at hbb
  refine wpAny_call (make_map (f := g) I.kIn M.makes M.init (beq_iff_eq.mp M.fn) (codeAny_mono (F.run _ X.stack _ _ ⟨Value.ref (s.heap.objs.size + 1) :: us, []⟩ (Value.ref (s.heap.objs.size + 1) :: us) _ _ (WE W σ) (hr.make ca us []) (gd_make hgd)
    (J.env0.make ca us []) hbb rs wish) ?_))
  intro r s' hq
  match r, hq with
  | .error e, hq => exact passAt tk σ pins _ _ e s' J hq
  | .ok (.ret u), hq =>
    obtain ⟨v, H', I3, rv, ev, q3⟩ := J.after hq
    subst ev
    exact ⟨rv, ⟨V.ref (s.heap.objs.size + 1), H', I3, rfl, q3⟩⟩
  | .ok .next, hq => exact hq.elim
  | .ok .brk, hq => exact hq.elim
  | .ok .cont, hq => exact hq.elim
theorem pe_makeG {sp : Sp} {x : Str} {t : TA} (M : Mk X.K ca g) (F : FnG X.prog X.w X.K X.mg X.base k g fd ps sp) (hr : Room (k + 1) X.A) (hgd : Gd X.base X.A) (hg : Gl X x) (hm : X.mg x = some (.ref ca)) (hb : Binds X.K fd ps []) (tk : Lets X W)
    (ha : PA X (e :: es) t) (hdb : (x == ("__debug__" : Str)) = false := by decide) (he : starEach (e :: es) X.env = (false, eval e X.env) :: starEach es X.env := by rfl) (hpl : (backTo pos (starEach es X.env)).any (·.1) = false := by rfl) :
    PE X (.Call (.Name x p) (e :: es) [] pos) (fun σ H Q => t σ H fun vs H1 => ∀ y dx, H1 y = none → H1 dx = none → dx ≠ y → sp (.ref y :: vs) (upd (upd H1 dx (.own y)) y (.ins ca dx [])) (fun v H2 => v = .non ∧ Q (.ref y) H2) (WE W σ)) := by
  refine ⟨fun pins s σ H Q I h => ?_⟩
  refine wpAny_Call_Name_kw (ld_glob I hg hm ?_ hdb)
  refine PySem.W.callWith_K (h₀ := X.base) I.ok.mod.kin M.kp (thn (ha.run pos pins s σ H _ I h) fun us s1 ⟨vs, H1, I1, r, q⟩ => ⟨I1.kIn, ?_⟩) he hpl
  exact run_makeG M F hr hgd hb tk I1 r q
theorem make_start {σ : L2.St} {H : Hp} {fr : Fr} {S : Store} {G : Gh} (R : Rel (.of X) O σ H fr S G) (nm : X.mg C = some (.ref ca)) {y dx : Addr} (hy : H y = none) (hd : H dx = none) (ne : dx ≠ y) :
    ∃ G2, Rel (.of X) O σ (upd (upd H dx (.own y)) y (.ins ca dx [])) fr (S ++ [.ins C []]) G2 ∧ Stp G H G2 (upd (upd H dx (.own y)) y (.ins ca dx [])) ∧ RpS (.of X) G2 (upd (upd H dx (.own y)) y (.ins ca dx [])) (.obj S.length) (.ref y) := by
  obtain ⟨B1, s1⟩ := R.base.newT (o := .own y) hd
  have hy1 : upd H dx (.own y) y = none := by rw [upd_ne (Ne.symm ne)]; exact hy
  obtain ⟨B2, s2⟩ := B1.newT (o := .ins ca dx []) hy1
  have R2 := (R.step s1 B1).step s2 B2
  obtain ⟨h0, nr, nf⟩ := R.base.new0 hy
  obtain ⟨G2, R3, s3, r3⟩ := R2.alloc (o := .ins C []) (s1.trans s2) hy h0 nf nr ⟨ca, dx, [], nm, upd_same, .nil⟩ fun i v o e1 e2 => R.own_there o e1 e2 hy
  exact ⟨G2, R3, s3, r3⟩
theorem make_sp {n : Nat} {F : FN} {σ : L2.St} {H : Hp} {fr : Fr} {S : Store} {G : Gh} {Q : VK} {xs : List SV} {vs : List V} (R : Rel (.of X) O σ H fr S G) (rs : RpSs (.of X) G H xs vs) (hn : xs.length = n) (nm : X.mg C = some (.ref ca))
    (h : Pst (.of X) W O σ H fr G ((F (.obj S.length :: xs) (S ++ [.ins C []])).bind fun v S2 => match v with
      | .d .none => .ok (.obj S.length) S2
      | _ => .bad) (RpS (.of X)) Q) :
    ∀ y dx, H y = none → H dx = none → dx ≠ y → spOf (.of X) (n + 1) F (.ref y :: vs) (upd (upd H dx (.own y)) y (.ins ca dx [])) (fun v H2 => v = .non ∧ Q (.ref y) H2) (WE W σ) := by
  intro y dx hy hd ne
  obtain ⟨G2, R2, st2, r2⟩ := make_start (C := C) R nm hy hd ne
  refine sp_of (xs := .obj S.length :: xs) R2 (.cons r2 (R.base.rpss st2 rs)) (by simp [hn]) ?_
  refine ⟨fun e => h.good (by rw [e]; rfl), fun z S' e u H' G' R' st r => ?_, fun x S' e H' G' cls d R' st r => h.exc x S' (by rw [e]; rfl) H' G' cls d R' (st2.trans st) r⟩
  cases z with
  | d x =>
    cases x with
    | none =>
      cases r
      exact ⟨rfl, h.ok (.obj S.length) S' (by rw [e]; rfl) _ H' G' R' (st2.trans st) (R2.base.rps st r2)⟩
    | _ => exact (h.good (by rw [e]; rfl)).elim
  | _ => exact (h.good (by rw [e]; rfl)).elim
theorem ce_make {n : Nat} {F : FN} {ma : AM} (nm : X.mg C = some (.ref ca)) (M : Mk X.K ca g) (Fn : FnG X.prog X.w X.K X.mg X.base k g fd ps (spOf (.of X) (n + 1) F)) (hr : Room (k + 1) X.A) (hgd : Gd X.base X.A) (hg : Gl X C) (hb : Binds X.K fd ps []) (tk : Lets X W)
    (ha : CA X W O (e :: es) ma) (hdb : (C == ("__debug__" : Str)) = false := by decide) (he : starEach (e :: es) X.env = (false, eval e X.env) :: starEach es X.env := by rfl) (hpl : (backTo pos (starEach es X.env)).any (·.1) = false := by rfl) :
    CE X W O (.Call (.Name C p) (e :: es) [] pos) (eMake C n F ma) :=
  peI (pe_makeG M Fn hr hgd hg nm hb tk ha hdb he hpl) fun σ H Q ⟨fr, S, G, R, h⟩ => ⟨fr, S, G, R, h.split fun xs S1 us H1 G1 R1 st1 rs h1 => by
    by_cases hl : xs.length = n
    · rw [if_pos hl] at h1
      exact make_sp R1 rs hl nm h1
    · rw [if_neg hl] at h1
      exact h1.not_bad.elim⟩
end
def sAppO (mo me : EM) : SM := fun fr S => (mo fr S).toS fr fun o S1 => match o with
  | .obj r => (match S1[r]? with
    | some (.lst _) => (me fr S1).toS fr fun v S2 => (match S2[r]? with
      | some (.lst xs) => if xs.length < sizeLine then .nx fr (S2.set r (.lst (xs ++ [v]))) else .bad
      | _ => .bad)
    | _ => .bad)
  | _ => .bad
theorem RpSs.snoc {M : Mo} {G : Gh} {H : Hp} {x : SV} {v : V} (r : RpS M G H x v) : ∀ {xs : List SV} {vs : List V}, RpSs M G H xs vs → RpSs M G H (xs ++ [x]) (vs ++ [v])
  | _, _, .nil => .cons r .nil
  | _, _, .cons q t => .cons q (RpSs.snoc r t)
theorem cs_appO {X : Cx} {W : WX} {L O : Own} {st : Stmt} {mo me : EM} (h : PS X st (tDrop (tBM X.K "list" rAppend (tM (.of X) W O mo) (tCons (tM (.of X) W O me) tNil)))) : CS X W L O st (sAppO mo me) O := by
  refine psI h fun D σ H ⟨fr, S, G, R, h⟩ => ⟨fr, S, G, R, h.expr R fun o S1 ou H1 G1 R1 st1 a1 ro h1 => ?_⟩
  split at h1
  · split at h1
    · rename_i r ys hs
      obtain ⟨a, rfl, ⟨vs, e, rs⟩, hr⟩ := R1.base.store_at hs ro
      refine ⟨.inl ⟨rfl, vs, SqL.of e⟩, fr, S1, G1, R1, h1.expr R1 fun v S2 u H2 G2 R2 st2 a2 rv h2 => ?_⟩
      split at h2
      · rename_i xs hs2
        split at h2
        · rename_i hz
          have ro2 := R1.base.rps st2 ro
          obtain ⟨a', ea, ⟨vs2, e2, rs2⟩, hr2⟩ := R2.base.store_at hs2 ro2
          cases ea
          obtain ⟨R3, a3⟩ := R2.storeSet (o := .lst (xs ++ [v])) (ho := .lst (vs2 ++ [u])) hr2 fun k => ⟨vs2 ++ [u], upd_same, RpSs.keep k ⟨[], by simp⟩ (RpSs.snoc rv rs2)⟩
          exact ⟨a, vs2, u, rfl, rfl, e2, by rw [← Paired.length rs2]; exact hz, h2.nx _ _ rfl _ _ G2 R3 a3⟩
        · exact (h2.good rfl).elim
      · exact (h2.good rfl).elim
    · exact (h1.good rfl).elim
  · exact (h1.good rfl).elim
end PD
namespace PD
open PySem PySem.Spec PyProof.Rows L2
def legSt (T : List (List (Option Nat))) (l : Leg) : Nat := match l.bran with
  | none => if l.next.isNone = true then 0 else 1
  | some i => match l.next with
    | some b => 1 + ((T.getD i.toNat []).getD b.toNat none).getD 0
    | none => 0
def legOk (T : List (List (Option Nat))) (l : Leg) : Prop := ∀ i b, l.bran = some i → l.next = some b → ((T.getD i.toNat []).getD b.toNat none).isSome = true
def lastOf (Lp : List (List (List Int))) (ls : List Leg) : List Int := match ls.getLast? with
  | none => []
  | some l => match l.bran with
    | none => []
    | some i => match l.next with
      | some b => (i + 1) :: (Lp.getD i.toNat []).getD b.toNat []
      | none => []
def EndsN (m : Maze) (R : Rob) (p : List Int) (x : Std) (n : Nat) (q : List Int) : Res → Prop
  | .out k => ∃ l, Way m R x l (exitOf p k) ∧ l.length = n
  | .stop w => ∃ l y, Way m R x (l ++ [y]) (.inl (.stop w)) ∧ l.length = n ∧ y.path = p ++ q
  | .ever => True
def stepsOf (T : List (List (Option Nat))) (t : List Leg × Res × Option Nat) : Option Nat := if t.2.1 = .ever then none else some ((t.1.map (legSt T)).sum)
mutual
def stB (R : Rob) : Maze → List (Option Nat)
  | .mk s bs => (List.range R.length).map fun i : Nat => stepsOf (stBs R bs) (legs R s (resBs R bs) (i : Nat))
def stBs (R : Rob) : List Maze → List (List (Option Nat))
  | [] => []
  | b :: bs => stB R b :: stBs R bs
end
mutual
def lpB (R : Rob) : Maze → List (List Int)
  | .mk s bs => (List.range R.length).map fun i : Nat => lastOf (lpBs R bs) (legs R s (resBs R bs) (i : Nat)).1
def lpBs (R : Rob) : List Maze → List (List (List Int))
  | [] => []
  | b :: bs => lpB R b :: lpBs R bs
end
theorem stBs_map (R : Rob) : ∀ bs : List Maze, stBs R bs = bs.map (stB R)
  | [] => rfl
  | b :: bs => by rw [stBs, stBs_map R bs]; rfl
theorem lpBs_map (R : Rob) : ∀ bs : List Maze, lpBs R bs = bs.map (lpB R)
  | [] => rfl
  | b :: bs => by rw [lpBs, lpBs_map R bs]; rfl
theorem lastOf_cons {Lp : List (List (List Int))} {l : Leg} {ls : List Leg} (h : ls ≠ []) : lastOf Lp (l :: ls) = lastOf Lp ls := by
  cases ls with
  | nil => exact absurd rfl h
  | cons a t => rfl
section
variable {m : Maze} {R : Rob} {p : List Int}
theorem run_endsN (hR : RobWf R) {s : Str} {bs : List Maze} {G : List (List Res)} {T : List (List (Option Nat))} {Lp : List (List (List Int))} (g : GWf R.length G) (hG : G.length = bs.length) (hp : Maze.at? m p = some (.mk s bs))
    (ih : ∀ (i : Nat) (st : Int), i < bs.length → 0 ≤ st → st < R.length → EndsN m R (p ++ [((i : Nat) : Int) + 1]) ⟨p ++ [((i : Nat) : Int) + 1], 0, st⟩ (((T.getD i []).getD st.toNat none).getD 0) ((Lp.getD i []).getD st.toNat []) ((G.getD i []).getD st.toNat default))
    (hT : ∀ (i : Nat) (st : Int), i < bs.length → 0 ≤ st → st < R.length → ((G.getD i []).getD st.toNat default) ≠ .ever → ((T.getD i []).getD st.toNat none).isSome = true) :
    ∀ (f : Nat) (seen : List (Int × Int)) (ls : List Leg) (x : Int × Int), (0 ≤ x.1 ∧ x.1 < ((1 + G.length : Nat) : Int) ∧ 0 ≤ x.2 ∧ x.2 < (R.length : Nat)) →
    ∃ new, (run R s G f seen ls x).1 = ls ++ new ∧ EndsN m R p ⟨p, x.1, x.2⟩ ((new.map (legSt T)).sum) (lastOf Lp new) (run R s G f seen ls x).2.1 ∧ ((run R s G f seen ls x).2.1 ≠ .ever → new ≠ [] ∧ ∀ l ∈ new, legOk T l)
  | 0, seen, ls, x, hx => ⟨[], by simp [run], trivial, fun h => absurd rfl h⟩
  | f + 1, seen, ls, x, hx => by
    rw [run]
    by_cases hm : x ∈ seen
    · rw [if_pos hm]
      exact ⟨[], by simp, trivial, fun h => absurd rfl h⟩
    · rw [if_neg hm]
      have dw := deedOf_wf hR hx.2.2.1 hx.2.2.2 s (1 + (G.length : Nat))
      have ws : (wStep m R ⟨p, x.1, x.2⟩) = gStep R s (1 + (bs.length : Nat)) ⟨p, x.1, x.2⟩ := by
        unfold wStep
        simp only [hp]
        rfl
      have lw := legStep_wf (s := s) hR g hx
      simp only [gStep, ← hG] at ws
      generalize hst : legStep R s G x = lst at lw
      unfold legStep at hst
      simp only at hst
      cases hd : deedOf (R.getD x.2.toNat []) (ruleOf (R.getD x.2.toNat []) s (1 + (G.length : Nat))) with
      | stop v =>
        rw [hd] at ws hst
        simp only at ws hst
        subst hst
        exact ⟨_, rfl, ⟨[], _, .one (by rw [ws]), rfl, by simp [lastOf]⟩, fun _ => ⟨by simp, fun l hl => by
          rw [List.mem_singleton.mp hl]; intro i b e; cases e⟩⟩
      | go a b =>
        rw [hd] at dw ws hst
        obtain ⟨a0, a1, b0, b1⟩ := dw
        have m0 := Int.emod_nonneg (x.1 + a) (show (1 : Int) + (G.length : Nat) ≠ 0 by omega)
        have m1 := Int.emod_lt_of_pos (x.1 + a) (show (0 : Int) < 1 + (G.length : Nat) by omega)
        simp only at ws hst
        generalize (x.1 + a) % (1 + (G.length : Nat)) = o at *
        by_cases z : o = 0
        · rw [if_pos z] at hst
          subst hst z
          rw [if_neg (by decide)] at ws
          exact ⟨_, rfl, ⟨[_], .one (by rw [ws]; rfl), rfl⟩, fun _ => ⟨by simp, fun l hl => by
            rw [List.mem_singleton.mp hl]; intro i b e; cases e⟩⟩
        · rw [if_neg z] at hst
          rw [if_pos (by omega)] at ws
          have oi : (((o - 1).toNat : Nat) : Int) + 1 = o := by omega
          have go := ih (o - 1).toNat b (by omega) b0 b1
          have goT := hT (o - 1).toNat b (by omega) b0 b1
          rw [oi] at go
          have w1 : (wStep m R ⟨p, x.1, x.2⟩).2 = .inr ⟨p ++ [o], 0, b⟩ := by rw [ws]
          cases e3 : (G.getD (o - 1).toNat []).getD b.toNat default with
          | out k =>
            rw [e3] at go goT hst
            simp only at hst
            subst hst
            obtain ⟨l, w, hl⟩ := go
            rw [exitOf_snoc] at w
            simp only
            obtain ⟨new, n1, n2, n3⟩ := run_endsN hR g hG hp ih hT f (seen ++ [x]) (ls ++ [⟨x.1, x.2, ruleOf (R.getD x.2.toNat []) s (1 + (G.length : Nat)), some (o - 1), some b⟩]) (o, k) (lw.2 _ rfl)
            refine ⟨_ :: new, by rw [n1, List.append_assoc]; rfl, ?_, fun h => ?_⟩
            · generalize (run R s G f (seen ++ [x]) (ls ++ [⟨x.1, x.2, ruleOf (R.getD x.2.toNat []) s (1 + (G.length : Nat)), some (o - 1), some b⟩]) (o, k)).2.1 = r at n2 n3
              cases r with
              | ever => trivial
              | out k2 =>
                obtain ⟨l2, w2, hl2⟩ := n2
                refine ⟨_, (Way.cons w1 w).app w2, ?_⟩
                simp only [List.length_append, List.length_cons, List.map_cons, List.sum_cons, legSt, hl, hl2]
                omega
              | stop v =>
                obtain ⟨l2, y, w2, hl2, hy⟩ := n2
                refine ⟨_, y, by rw [List.append_assoc]; exact (Way.cons w1 w).app w2, ?_, ?_⟩
                · simp only [List.length_append, List.length_cons, List.map_cons, List.sum_cons, legSt, hl, hl2]
                  omega
                · rw [hy, lastOf_cons (n3 (by intro z; cases z)).1]
            · obtain ⟨n4, n5⟩ := n3 h
              refine ⟨by simp, fun l hl' => ?_⟩
              rcases List.mem_cons.mp hl' with e | e
              · rw [e]
                intro i b' e1 e2
                cases e1
                cases e2
                exact goT (by intro z; cases z)
              · exact n5 l e
          | stop v =>
            rw [e3] at go goT hst
            simp only at hst
            subst hst
            obtain ⟨l, y, w, hl, hy⟩ := go
            refine ⟨_, rfl, ⟨_ :: l, y, .cons w1 w, ?_, ?_⟩, fun _ => ⟨by simp, fun l' hl' => ?_⟩⟩
            · simp only [List.length_cons, List.map_cons, List.map_nil, List.sum_cons, List.sum_nil, legSt, hl]
              omega
            · rw [hy]
              simp only [lastOf, List.getLast?_singleton]
              rw [show o - 1 + 1 = o by omega]
              simp
            · rw [List.mem_singleton.mp hl']
              intro i b' e1 e2
              cases e1
              cases e2
              exact goT (by intro z; cases z)
          | ever =>
            rw [e3] at hst
            simp only at hst
            subst hst
            exact ⟨_, rfl, trivial, fun h => absurd rfl h⟩
end
theorem range_get {α : Type} {f : Nat → α} {n : Nat} {d : α} {st : Int} (h0 : 0 ≤ st) (h1 : st < n) : ((List.range n).map f).getD st.toNat d = f st.toNat := by
  rw [List.getD_eq_getElem?_getD, List.getElem?_map, List.getElem?_range (by omega)]
  rfl
theorem maze_endsN {m : Maze} {R : Rob} (hR : RobWf R) : ∀ (k : Nat) (b : Maze) (p : List Int), b.size ≤ k → b.Wf → Maze.at? m p = some b → ∀ st : Int, 0 ≤ st → st < R.length →
    EndsN m R p ⟨p, 0, st⟩ (((stB R b).getD st.toNat none).getD 0) ((lpB R b).getD st.toNat []) ((resB R b).getD st.toNat default) ∧ ((resB R b).getD st.toNat default ≠ .ever → ((stB R b).getD st.toNat none).isSome = true)
  | 0, b, _, h, _, _, _, _, _ => by have := b.size_pos; omega
  | k + 1, .mk s bs, p, h, w, hp, st, h0, h1 => by
    rw [resB, roomR_get R s _ h0 h1, stB, lpB, range_get h0 h1, range_get h0 h1, show ((st.toNat : Nat) : Int) = st by omega]
    have lG : (resBs R bs).length = bs.length := by rw [resBs_map, List.length_map]
    have sub : ∀ (i : Nat) (st : Int), i < bs.length → 0 ≤ st → st < R.length → EndsN m R (p ++ [((i : Nat) : Int) + 1]) ⟨p ++ [((i : Nat) : Int) + 1], 0, st⟩ ((((stBs R bs).getD i []).getD st.toNat none).getD 0) (((lpBs R bs).getD i []).getD st.toNat []) (((resBs R bs).getD i []).getD st.toNat default) ∧
        (((resBs R bs).getD i []).getD st.toNat default ≠ .ever → (((stBs R bs).getD i []).getD st.toNat none).isSome = true) := fun i st hi s0 s1 => by
      have hb : bs[i]? = some bs[i] := List.getElem?_eq_getElem hi
      have e1 : (resBs R bs).getD i [] = resB R bs[i] := by rw [resBs_map, List.getD_eq_getElem?_getD, List.getElem?_map, hb]; rfl
      have e2 : (stBs R bs).getD i [] = stB R bs[i] := by rw [stBs_map, List.getD_eq_getElem?_getD, List.getElem?_map, hb]; rfl
      have e3 : (lpBs R bs).getD i [] = lpB R bs[i] := by rw [lpBs_map, List.getD_eq_getElem?_getD, List.getElem?_map, hb]; rfl
      rw [e1, e2, e3]
      have le : bs[i].size ≤ k := by
        have := (Maze.at_wf (p := [((i : Nat) : Int) + 1]) w (Maze.at_child (m := .mk s bs) (by omega) (by show _ ≤ ((bs.length : Nat) : Int); omega) (by show bs[_]? = _; rw [show (((i : Nat) : Int) + 1 - 1).toNat = i by omega]; exact hb))).2
        simp at this
        omega
      refine maze_endsN hR k bs[i] (p ++ [((i : Nat) : Int) + 1]) le (w.mem (List.getElem_mem hi)) ?_ st s0 s1
      rw [Maze.at_app, hp, Option.bind_some]
      exact Maze.at_child (m := .mk s bs) (by omega) (by show _ ≤ ((bs.length : Nat) : Int); omega) (by show bs[_]? = _; rw [show (((i : Nat) : Int) + 1 - 1).toNat = i by omega]; exact hb)
    obtain ⟨new, n1, n2, n3⟩ := run_endsN (T := stBs R bs) (Lp := lpBs R bs) hR (resBs_g hR w) lG hp (fun i st hi s0 s1 => (sub i st hi s0 s1).1) (fun i st hi s0 s1 => (sub i st hi s0 s1).2) ((1 + (resBs R bs).length) * R.length + 1) [] [] (0, st) ⟨by simp, by simp; omega, h0, h1⟩
    have e : (legs R s (resBs R bs) st).1 = new := by
      unfold legs
      rw [n1, List.nil_append]
    have e2 : run R s (resBs R bs) ((1 + (resBs R bs).length) * R.length + 1) [] [] (0, st) = legs R s (resBs R bs) st := rfl
    rw [e2] at n2 n3
    unfold stepsOf
    by_cases hv : (legs R s (resBs R bs) st).2.1 = .ever
    · rw [hv]
      exact ⟨trivial, fun h => absurd rfl h⟩
    · rw [if_neg hv, e]
      exact ⟨n2, fun _ => rfl⟩
theorem legs_ok {R : Rob} (hR : RobWf R) {s : Str} {bs : List Maze} (w : (Maze.mk s bs).Wf) {st : Int} (h0 : 0 ≤ st) (h1 : st < R.length) (hv : (legs R s (resBs R bs) st).2.1 ≠ .ever) :
    (legs R s (resBs R bs) st).1 ≠ [] ∧ ∀ l ∈ (legs R s (resBs R bs) st).1, legOk (stBs R bs) l := by
  have lG : (resBs R bs).length = bs.length := by rw [resBs_map, List.length_map]
  have sub : ∀ (i : Nat) (st : Int), i < bs.length → 0 ≤ st → st < R.length → EndsN (.mk s bs) R ([] ++ [((i : Nat) : Int) + 1]) ⟨[] ++ [((i : Nat) : Int) + 1], 0, st⟩ ((((stBs R bs).getD i []).getD st.toNat none).getD 0) (((lpBs R bs).getD i []).getD st.toNat []) (((resBs R bs).getD i []).getD st.toNat default) ∧
      (((resBs R bs).getD i []).getD st.toNat default ≠ .ever → (((stBs R bs).getD i []).getD st.toNat none).isSome = true) := fun i st hi s0 s1 => by
    have hb : bs[i]? = some bs[i] := List.getElem?_eq_getElem hi
    have e1 : (resBs R bs).getD i [] = resB R bs[i] := by rw [resBs_map, List.getD_eq_getElem?_getD, List.getElem?_map, hb]; rfl
    have e2 : (stBs R bs).getD i [] = stB R bs[i] := by rw [stBs_map, List.getD_eq_getElem?_getD, List.getElem?_map, hb]; rfl
    have e3 : (lpBs R bs).getD i [] = lpB R bs[i] := by rw [lpBs_map, List.getD_eq_getElem?_getD, List.getElem?_map, hb]; rfl
    rw [e1, e2, e3]
    exact maze_endsN hR _ bs[i] _ (Nat.le_refl _) (w.mem (List.getElem_mem hi)) (Maze.at_child (m := .mk s bs) (by omega) (by show _ ≤ ((bs.length : Nat) : Int); omega) (by show bs[_]? = _; rw [show (((i : Nat) : Int) + 1 - 1).toNat = i by omega]; exact hb)) st s0 s1
  obtain ⟨new, n1, n2, n3⟩ := run_endsN (m := .mk s bs) (p := []) (T := stBs R bs) (Lp := lpBs R bs) hR (resBs_g hR w) lG (Maze.at_nil _) (fun i st hi s0 s1 => (sub i st hi s0 s1).1) (fun i st hi s0 s1 => (sub i st hi s0 s1).2) ((1 + (resBs R bs).length) * R.length + 1) [] [] (0, st) ⟨by simp, by simp; omega, h0, h1⟩
  have e : (legs R s (resBs R bs) st).1 = new := by
    unfold legs
    rw [n1, List.nil_append]
  rw [e]
  exact n3 hv
theorem goOf_plan {m : Maze} {R : Rob} (hR : RobWf R) (w : m.Wf) {st : Int} (h0 : 0 ≤ st) (h1 : st < R.length) :
    (∀ k, (goOf m R st).1 = .out k → (stB R m).getD st.toNat none = some (goOf m R st).2.length) ∧
    (∀ v, (goOf m R st).1 = .stop v → ∃ l y, (goOf m R st).2 = l ++ [y] ∧ (stB R m).getD st.toNat none = some l.length ∧ y.path = (lpB R m).getD st.toNat []) := by
  obtain ⟨a, b⟩ := maze_endsN (m := m) hR _ m [] (Nat.le_refl _) w (Maze.at_nil m) st h0 h1
  have e := goOf_res hR w h0 h1
  rw [← e] at a b
  have sm : ∀ {o : Option Nat} {n : Nat}, o.isSome = true → n = o.getD 0 → o = some n := fun {o n} h q => by
    cases o with
    | none => cases h
    | some k => rw [q]; rfl
  refine ⟨fun k h => ?_, fun v h => ?_⟩
  · rw [h] at a b
    obtain ⟨l, wy, hl⟩ := a
    rw [goOf_way hR w h0 h1 wy]
    exact sm (b (by intro z; cases z)) hl
  · rw [h] at a b
    obtain ⟨l, y, wy, hl, hy⟩ := a
    rw [goOf_way hR w h0 h1 wy]
    exact ⟨l, y, rfl, sm (b (by intro z; cases z)) hl, by rw [hy, List.nil_append]⟩
end PD
namespace PD
open PySem PySem.Spec PyProof.Rows L2
abbrev Plan := List (Str × List Nat)
def entD (e : Str × List Nat) : PyData := .tuple [.str e.1, .tuple (e.2.map fun n => .int (n : Nat))]
def planD (P : Plan) : PyData := .tuple (P.map entD)
def dM : Maze := .mk "" []
def unfS (ms : List Maze) (e : Str × List Nat) : List Maze := ms ++ [.mk e.1 (e.2.map fun n => ms.getD n dM)]
def unf (P : Plan) : List Maze := P.foldl unfS []
structure PlanWf (P : Plan) : Prop where
  at_ : ∀ (i : Nat) (e : Str × List Nat), P[i]? = some e → Sn e.1 ∧ e.2.length ≤ 2 ∧ ∀ n ∈ e.2, n < i
theorem unf_snoc (P : Plan) (e : Str × List Nat) : unf (P ++ [e]) = unf P ++ [.mk e.1 (e.2.map fun n => (unf P).getD n dM)] := by
  unfold unf
  rw [List.foldl_append]
  rfl
theorem unf_len (P : Plan) : (unf P).length = P.length := by
  have : ∀ (P : Plan) (ms : List Maze), (P.foldl unfS ms).length = ms.length + P.length := fun P => by
    induction P with
    | nil => intro ms; rfl
    | cons e P ih => intro ms; rw [List.foldl_cons, ih]; simp [unfS]; omega
  have := this P []
  simpa [unf] using this
theorem PlanWf.left {P Q : Plan} (h : PlanWf (P ++ Q)) : PlanWf P := ⟨fun i e q => h.at_ i e (by rw [List.getElem?_append_left (List.getElem?_eq_some_iff.mp q).1]; exact q)⟩
theorem PlanWf.last {P : Plan} {e : Str × List Nat} (h : PlanWf (P ++ [e])) : Sn e.1 ∧ e.2.length ≤ 2 ∧ ∀ n ∈ e.2, n < P.length := h.at_ P.length e (by simp)
theorem snoc_ind {α : Type} {C : List α → Prop} (h0 : C []) (hs : ∀ l x, C l → C (l ++ [x])) : ∀ l, C l := fun l => by
  have : ∀ n (l : List α), l.length = n → C l := fun n => by
    induction n with
    | zero => intro l h; rw [List.length_eq_zero_iff.mp h]; exact h0
    | succ n ih =>
      intro l h
      rcases List.eq_nil_or_concat l with e | ⟨l', x, e⟩
      · rw [e] at h; cases h
      · rw [List.concat_eq_append] at e
        subst e
        exact hs _ _ (ih l' (by simpa using h))
  exact this _ l rfl
theorem wf_mk {s : Str} {bs : List Maze} (h : Sn s) (l : bs.length ≤ 2) (k : ∀ b ∈ bs, b.Wf) : (Maze.mk s bs).Wf := by
  rw [Maze.Wf]
  exact ⟨h, l, Maze.wfs_all.mpr k⟩
theorem unf_wf : ∀ {P : Plan}, PlanWf P → ∀ m ∈ unf P, m.Wf := fun {P} => by
  induction P using snoc_ind with
  | h0 => intro _ m hm; cases hm
  | hs P e ih =>
    intro h m hm
    rw [unf_snoc] at hm
    obtain ⟨a, b, c⟩ := h.last
    rcases List.mem_append.mp hm with q | q
    · exact ih h.left m q
    · rw [List.mem_singleton.mp q]
      refine wf_mk a (by simpa using b) fun x hx => ?_
      obtain ⟨n, hn, rfl⟩ := List.mem_map.mp hx
      have hl : n < (unf P).length := by rw [unf_len]; exact c n hn
      rw [List.getD_eq_getElem?_getD, List.getElem?_eq_getElem hl]
      exact ih h.left _ (List.getElem_mem hl)
theorem unf_at {P : Plan} {i : Nat} {e : Str × List Nat} (h : P[i]? = some e) : (unf P)[i]? = some (.mk e.1 (e.2.map fun n => (unf (P.take i)).getD n dM)) ∧ ∀ n, n < i → (unf (P.take i)).getD n dM = (unf P).getD n dM := by
  have hi := (List.getElem?_eq_some_iff.mp h).1
  have e1 : P = P.take i ++ e :: P.drop (i + 1) := by
    have := (List.getElem?_eq_some_iff.mp h).2
    rw [← this, ← List.drop_eq_getElem_cons hi, List.take_append_drop]
  have pre : ∀ (Q A : Plan), ∃ more, unf (A ++ Q) = unf A ++ more := fun Q => by
    induction Q using snoc_ind with
    | h0 => intro A; exact ⟨[], by simp⟩
    | hs Q x ih =>
      intro A
      obtain ⟨more, q⟩ := ih A
      rw [← List.append_assoc, unf_snoc, q]
      exact ⟨_, List.append_assoc _ _ _⟩
  obtain ⟨m1, q1⟩ := pre (P.drop (i + 1)) (P.take i ++ [e])
  have e2 : unf P = unf (P.take i) ++ .mk e.1 (e.2.map fun n => (unf (P.take i)).getD n dM) :: m1 := by
    conv => lhs; rw [e1]
    rw [show P.take i ++ e :: P.drop (i + 1) = (P.take i ++ [e]) ++ P.drop (i + 1) by simp, q1, unf_snoc]
    simp
  have lt : (unf (P.take i)).length = i := by rw [unf_len, List.length_take]; omega
  refine ⟨by rw [e2, List.getElem?_append_right (by omega), lt, Nat.sub_self]; rfl, fun n hn => ?_⟩
  rw [e2, List.getD_eq_getElem?_getD, List.getD_eq_getElem?_getD, List.getElem?_append_left (by omega)]
end PD
namespace PD
open PySem PySem.Spec PyProof.Rows L2
structure LegIn (D n : Nat) (l : Leg) : Prop where
  ok : l.bran = none ∨ ∃ i b : Int, l.bran = some i ∧ l.next = some b ∧ 0 ≤ i ∧ i < D ∧ 0 ≤ b ∧ b < n
theorem legStep_in {R : Rob} {s : Str} {G : List (List Res)} (h : RobWf R) {x : Int × Int} (hx : 0 ≤ x.1 ∧ x.1 < ((1 + G.length : Nat) : Int) ∧ 0 ≤ x.2 ∧ x.2 < (R.length : Nat)) :
    LegIn G.length R.length (legStep R s G x).1 ∧ ∀ r, (legStep R s G x).2 = .inl r → r ≠ .ever → ∀ i b, (legStep R s G x).1.bran = some i → (legStep R s G x).1.next = some b → (G.getD i.toNat []).getD b.toNat default = r := by
  have hd := deedOf_wf h hx.2.2.1 hx.2.2.2 s (1 + (G.length : Nat))
  unfold legStep
  simp only
  cases e : deedOf (R.getD x.2.toNat []) (ruleOf (R.getD x.2.toNat []) s (1 + (G.length : Nat))) with
  | stop w => exact ⟨⟨.inl rfl⟩, fun r _ _ i b e => by cases e⟩
  | go a b =>
    rw [e] at hd
    obtain ⟨a0, a1, b0, b1⟩ := hd
    have m0 := Int.emod_nonneg (x.1 + a) (show (1 : Int) + (G.length : Nat) ≠ 0 by omega)
    have m1 := Int.emod_lt_of_pos (x.1 + a) (show (0 : Int) < 1 + (G.length : Nat) by omega)
    simp only
    by_cases z : (x.1 + a) % (1 + (G.length : Nat)) = 0
    · rw [if_pos z]
      exact ⟨⟨.inl rfl⟩, fun r _ _ i b e => by cases e⟩
    · rw [if_neg z]
      refine ⟨⟨.inr ⟨_, b, rfl, rfl, by omega, by omega, b0, b1⟩⟩, fun r er hr i b' e1 e2 => ?_⟩
      cases e1
      cases e2
      simp only at er ⊢
      cases e3 : (G.getD ((x.1 + a) % (1 + (G.length : Nat)) - 1).toNat []).getD b.toNat default with
      | out k => rw [e3] at er; cases er
      | ever => rw [e3] at er; cases er; rfl
      | stop w => rw [e3] at er; cases er; rfl
theorem run_in {R : Rob} {s : Str} {G : List (List Res)} (h : RobWf R) (g : GWf R.length G) : ∀ (f : Nat) (seen : List (Int × Int)) (ls : List Leg) (x : Int × Int), (0 ≤ x.1 ∧ x.1 < ((1 + G.length : Nat) : Int) ∧ 0 ≤ x.2 ∧ x.2 < (R.length : Nat)) →
    (∀ l ∈ ls, LegIn G.length R.length l) → (∀ l ∈ (run R s G f seen ls x).1, LegIn G.length R.length l) ∧
    ((run R s G f seen ls x).2.1 ≠ .ever → ∃ new l, (run R s G f seen ls x).1 = new ++ [l] ∧ ∀ i b, l.bran = some i → l.next = some b → (G.getD i.toNat []).getD b.toNat default = (run R s G f seen ls x).2.1)
  | 0, _, ls, _, _, hl => ⟨hl, fun q => absurd rfl q⟩
  | f + 1, seen, ls, x, hx, hl => by
    obtain ⟨a, b⟩ := legStep_in (s := s) (G := G) h hx
    have lw := legStep_wf (s := s) h g hx
    unfold run
    split
    · exact ⟨hl, fun q => absurd rfl q⟩
    · split
      · rename_i r e
        refine ⟨fun l hm => ?_, fun q => ⟨ls, _, rfl, b r e q⟩⟩
        rcases List.mem_append.mp hm with z | z
        · exact hl l z
        · rw [List.mem_singleton.mp z]; exact a
      · rename_i y e
        refine run_in h g f _ _ y (lw.2 y e) fun l hm => ?_
        rcases List.mem_append.mp hm with z | z
        · exact hl l z
        · rw [List.mem_singleton.mp z]; exact a
theorem legs_in {R : Rob} {s : Str} {G : List (List Res)} (h : RobWf R) (g : GWf R.length G) {st : Int} (h0 : 0 ≤ st) (h1 : st < R.length) : (∀ l ∈ (legs R s G st).1, LegIn G.length R.length l) ∧
    ((legs R s G st).2.1 ≠ .ever → ∃ new l, (legs R s G st).1 = new ++ [l] ∧ ∀ i b, l.bran = some i → l.next = some b → (G.getD i.toNat []).getD b.toNat default = (legs R s G st).2.1) :=
  run_in h g _ _ _ (0, st) ⟨by simp, by simp; omega, h0, h1⟩ (by simp)
theorem run_len {R : Rob} {s : Str} {G : List (List Res)} : ∀ (f : Nat) (seen : List (Int × Int)) (ls : List Leg) (x : Int × Int), (run R s G f seen ls x).1.length ≤ ls.length + f
  | 0, _, ls, _ => by simp [run]
  | f + 1, seen, ls, x => by
    unfold run
    split
    · simp
    · split
      · simp
      · have := run_len (R := R) (s := s) (G := G) f (seen ++ [x]) (ls ++ [(legStep R s G x).1]) ‹_›
        simp at this ⊢
        omega
theorem legs_len {R : Rob} {s : Str} {G : List (List Res)} {st : Int} : (legs R s G st).1.length ≤ (1 + G.length) * R.length + 1 := by
  have := run_len (R := R) (s := s) (G := G) ((1 + G.length) * R.length + 1) [] [] (0, st)
  simpa [legs] using this
theorem ixT4 {S : Store} {a b c d e : PyData} {xs : List PyData} : ixV (.d (.tuple (a :: b :: c :: d :: e :: xs))) (.d (.int 4)) S = .ok (.d e) S := by
  rw [ix_get (by decide) (by simp only [List.length_cons]; omega)]
  rfl
end PD
namespace PD
open PySem PySem.Spec PyProof.Rows L2
def aft (m : Maze) (R : Rob) : Nat → Std → Option Std
  | 0, x => some x
  | n + 1, x => match (wStep m R x).2 with
    | .inr y => aft m R n y
    | .inl _ => none
def Std.pre (k : Int) (x : Std) : Std := ⟨k :: x.path, x.door, x.st⟩
section
variable {m : Maze} {R : Rob}
theorem aft_inr {x y : Std} {n : Nat} (h : (wStep m R x).2 = .inr y) : aft m R (n + 1) x = aft m R n y := by rw [aft, h]
theorem aft_inl {x : Std} {r : Res} {n : Nat} (h : (wStep m R x).2 = .inl r) : aft m R (n + 1) x = none := by rw [aft, h]
theorem aft_way {x y : Std} {l : List Std} (h : Way m R x l (.inr y)) (n : Nat) : aft m R (l.length + n) x = aft m R n y := by
  generalize hz : (Sum.inr y : Res ⊕ Std) = z at h
  induction h with
  | one h => subst hz; rw [List.length_singleton, Nat.add_comm, aft_inr h]
  | @cons x z l e h t ih => rw [List.length_cons, show l.length + 1 + n = (l.length + n) + 1 by omega, aft_inr h, ih hz]
theorem aft_at {x : Std} {l : List Std} {e : Res ⊕ Std} (h : Way m R x l e) : ∀ {n : Nat}, n < l.length → aft m R n x = l[n]? := by
  induction h with
  | one h =>
    intro n hn
    have : n = 0 := by simp at hn; omega
    subst this
    rfl
  | @cons x z l e h t ih =>
    intro n hn
    cases n with
    | zero => rfl
    | succ n =>
      rw [aft_inr h, ih (by simpa using hn)]
      rfl
theorem aft_end {x : Std} {l : List Std} {r : Res} (h : Way m R x l (.inl r)) : ∀ {n : Nat}, l.length ≤ n → aft m R n x = none := by
  generalize hz : (Sum.inl r : Res ⊕ Std) = z at h
  induction h with
  | one h =>
    intro n hn
    subst hz
    obtain ⟨n, rfl⟩ : ∃ k, n = k + 1 := ⟨n - 1, by simp at hn; omega⟩
    exact aft_inl h
  | @cons x z l e h t ih =>
    intro n hn
    obtain ⟨n, rfl⟩ : ∃ k, n = k + 1 := ⟨n - 1, by simp at hn; omega⟩
    rw [aft_inr h, ih hz (by simpa using hn)]
theorem aft_add {u v : Nat} : ∀ {x : Std}, aft m R (u + v) x = (aft m R u x).bind (aft m R v) := by
  induction u with
  | zero => intro x; rw [Nat.zero_add]; rfl
  | succ u ih =>
    intro x
    rw [show u + 1 + v = (u + v) + 1 by omega]
    cases h : (wStep m R x).2 with
    | inl r => rw [aft_inl h, aft_inl h]; rfl
    | inr y => rw [aft_inr h, aft_inr h, ih]
theorem aft_mul {x : Std} {t : Nat} (h : aft m R t x = some x) : ∀ k, aft m R (t * k) x = some x
  | 0 => rfl
  | k + 1 => by rw [Nat.mul_succ, aft_add, aft_mul h k]; exact h
theorem aft_period {x : Std} {t : Nat} (h : aft m R t x = some x) (n : Nat) : aft m R n x = aft m R (n % t) x := by
  conv => lhs; rw [← Nat.div_add_mod n t]
  rw [aft_add, aft_mul h]
  rfl
theorem way_of_aft : ∀ {u : Nat} {x y : Std} {e : Res ⊕ Std}, aft m R u x = some y → (wStep m R y).2 = e → ∃ l, Way m R x l e ∧ l.length = u + 1
  | 0, x, y, e, h, k => by
    cases h
    exact ⟨_, .one k, rfl⟩
  | u + 1, x, y, e, h, k => by
    cases hs : (wStep m R x).2 with
    | inl r => rw [aft_inl hs] at h; cases h
    | inr z =>
      rw [aft_inr hs] at h
      obtain ⟨l, w, hl⟩ := way_of_aft h k
      exact ⟨_, .cons hs w, by rw [List.length_cons, hl]⟩
end
section
variable {R : Rob} {s : Str} {bs : List Maze} {i : Nat} {b : Maze}
theorem at_sub (hb : bs[i]? = some b) (q : List Int) : Maze.at? (.mk s bs) ((((i : Nat) : Int) + 1) :: q) = Maze.at? b q := by
  have hi := (List.getElem?_eq_some_iff.mp hb).1
  have e : Maze.at? (.mk s bs) [((i : Nat) : Int) + 1] = some b := Maze.at_child (m := .mk s bs) (by omega) (by show _ ≤ ((bs.length : Nat) : Int); omega) (by show bs[_]? = _; rw [show (((i : Nat) : Int) + 1 - 1).toNat = i by omega]; exact hb)
  rw [show ((((i : Nat) : Int) + 1) :: q) = [((i : Nat) : Int) + 1] ++ q from rfl, Maze.at_app, e]
  rfl
theorem pre_step (hb : bs[i]? = some b) {x : Std} {r : Maze} (hr : Maze.at? b x.path = some r) :
    (∀ y, (wStep b R x).2 = .inr y → (wStep (.mk s bs) R (x.pre (((i : Nat) : Int) + 1))).2 = .inr (y.pre (((i : Nat) : Int) + 1))) ∧
    (∀ r', (wStep b R x).2 = .inl r' → (∀ k, r' ≠ .out k) → ∃ r2, (wStep (.mk s bs) R (x.pre (((i : Nat) : Int) + 1))).2 = .inl r2) := by
  unfold wStep
  rw [show (x.pre (((i : Nat) : Int) + 1)).path = (((i : Nat) : Int) + 1) :: x.path from rfl, at_sub hb, hr]
  simp only [gStep]
  rw [show (x.pre (((i : Nat) : Int) + 1)).st = x.st from rfl, show (x.pre (((i : Nat) : Int) + 1)).door = x.door from rfl]
  cases deedOf (R.getD x.st.toNat []) (ruleOf (R.getD x.st.toNat []) r.sign (1 + (r.brs.length : Nat))) with
  | stop w => exact ⟨fun y h => by (cases h), fun r' _ _ => ⟨_, rfl⟩⟩
  | go a c =>
    simp only
    generalize (x.door + a) % (1 + (r.brs.length : Nat)) = o
    by_cases z : 0 < o
    · rw [if_pos z, if_pos z]
      exact ⟨fun y h => by cases h; rfl, fun r' h _ => by (cases h)⟩
    · rw [if_neg z, if_neg z]
      show _ ∧ _
      rw [show (x.pre (((i : Nat) : Int) + 1)).path = (((i : Nat) : Int) + 1) :: x.path from rfl]
      cases hp : x.path.getLast? with
      | none => exact ⟨fun y h => by (cases h), fun r' h k => by cases h; exact absurd rfl (k c)⟩
      | some d =>
        have hne : x.path ≠ [] := fun z => by rw [z] at hp; cases hp
        have e1 : ((((i : Nat) : Int) + 1) :: x.path).getLast? = some d := by
          rw [List.getLast?_cons, hp]
          rfl
        have e2 : ((((i : Nat) : Int) + 1) :: x.path).dropLast = (((i : Nat) : Int) + 1) :: x.path.dropLast := by
          cases hx : x.path with
          | nil => exact absurd hx hne
          | cons a t => rfl
        rw [e1, e2]
        exact ⟨fun y h => by cases h; rfl, fun r' h _ => by (cases h)⟩
theorem aft_pre (hR : RobWf R) (hb : bs[i]? = some b) : ∀ {n : Nat} {x : Std}, x.In b R → (∀ u, u < n → ∀ y, aft b R u x = some y → ∀ k, (wStep b R y).2 ≠ .inl (.out k)) →
    aft (.mk s bs) R n (x.pre (((i : Nat) : Int) + 1)) = (aft b R n x).map (Std.pre (((i : Nat) : Int) + 1))
  | 0, x, _, _ => rfl
  | n + 1, x, hx, h => by
    obtain ⟨r, hr, _⟩ := hx.room
    obtain ⟨p1, p2⟩ := pre_step (R := R) (s := s) hb hr
    cases hs : (wStep b R x).2 with
    | inr y =>
      rw [aft_inr hs, aft_inr (p1 y hs)]
      exact aft_pre hR hb ((step_in hR hx).2 y hs) fun u hu z hz k => h (u + 1) (by omega) z (by rw [aft_inr hs]; exact hz) k
    | inl r' =>
      obtain ⟨r2, e⟩ := p2 r' hs fun k q => h 0 (by omega) x rfl k (by rw [hs, q])
      rw [aft_inl hs, aft_inl e]
      rfl
theorem aft_branch (hR : RobWf R) (w : (Maze.mk s bs).Wf) (hb : bs[i]? = some b) {st : Int} (h0 : 0 ≤ st) (h1 : st < R.length) {n : Nat}
    (hn : ∀ k, (resB R b).getD st.toNat default = .out k → n < ((stB R b).getD st.toNat none).getD 0) :
    aft (.mk s bs) R n ⟨[((i : Nat) : Int) + 1], 0, st⟩ = (aft b R n (gate st)).map (Std.pre (((i : Nat) : Int) + 1)) := by
  have wb : b.Wf := w.mem (List.mem_of_getElem? hb)
  refine aft_pre (x := gate st) hR hb (gate_in h0 h1) fun u hu y hy k hk => ?_
  obtain ⟨l, wl, hl⟩ := way_of_aft hy hk
  have g1 := goOf_way hR wb h0 h1 wl
  have g2 := goOf_res hR wb h0 h1
  rw [g1] at g2
  have g3 := hn k g2.symm
  have g4 := (goOf_plan hR wb h0 h1).1 k (by rw [g1])
  rw [g1] at g4
  rw [g4] at g3
  simp only [Option.getD_some] at g3
  omega
theorem aft_left (hR : RobWf R) (w : (Maze.mk s bs).Wf) (hb : bs[i]? = some b) {st k : Int} (h0 : 0 ≤ st) (h1 : st < R.length) (hk : (resB R b).getD st.toNat default = .out k) (n : Nat) :
    aft (.mk s bs) R (((stB R b).getD st.toNat none).getD 0 + n) ⟨[((i : Nat) : Int) + 1], 0, st⟩ = aft (.mk s bs) R n ⟨[], ((i : Nat) : Int) + 1, k⟩ := by
  have hi := (List.getElem?_eq_some_iff.mp hb).1
  have e : Maze.at? (.mk s bs) [((i : Nat) : Int) + 1] = some b := by rw [at_sub hb]; exact Maze.at_nil b
  have := (maze_endsN (m := .mk s bs) hR _ b [((i : Nat) : Int) + 1] (Nat.le_refl _) (w.mem (List.mem_of_getElem? hb)) e st h0 h1).1
  rw [hk] at this
  obtain ⟨l, wl, hl⟩ := this
  rw [← hl, aft_way wl]
  rfl
end
def Leg.at (l : Leg) : Int × Int := (l.door, l.st)
def Leg.std (l : Leg) : Std := ⟨[], l.door, l.st⟩
structure Chain (R : Rob) (s : Str) (G : List (List Res)) (x0 : Int × Int) (ls : List Leg) (e : Res ⊕ (Int × Int)) : Prop where
  one : ∀ l ∈ ls, l = (legStep R s G l.at).1 ∧ 0 ≤ l.door ∧ l.door < ((1 + G.length : Nat) : Int) ∧ 0 ≤ l.st ∧ l.st < R.length
  two : ∀ j l l', ls[j]? = some l → ls[j + 1]? = some l' → (legStep R s G l.at).2 = .inr l'.at
  fst : ∀ l, ls[0]? = some l → l.at = x0
  lst : ∀ l, ls.getLast? = some l → (legStep R s G l.at).2 = e
  non : ls = [] → e = .inr x0
theorem legStep_at (R : Rob) (s : Str) (G : List (List Res)) (x : Int × Int) : (legStep R s G x).1.at = x := by
  unfold legStep Leg.at
  simp only
  split
  · rfl
  · split <;> rfl
theorem Chain.snoc {R : Rob} {s : Str} {G : List (List Res)} {x0 x : Int × Int} {ls : List Leg} (c : Chain R s G x0 ls (.inr x)) (hx : 0 ≤ x.1 ∧ x.1 < ((1 + G.length : Nat) : Int) ∧ 0 ≤ x.2 ∧ x.2 < (R.length : Nat)) :
    Chain R s G x0 (ls ++ [(legStep R s G x).1]) (legStep R s G x).2 := by
  have ea := legStep_at R s G x
  refine ⟨fun l hl => ?_, fun j l l' h1 h2 => ?_, fun l h => ?_, fun l h => ?_, fun h => by simp at h⟩
  · rcases List.mem_append.mp hl with h | h
    · exact c.one l h
    · rw [List.mem_singleton.mp h, ea]
      refine ⟨rfl, ?_⟩
      have e1 : (legStep R s G x).1.door = x.1 := congrArg Prod.fst ea
      have e2 : (legStep R s G x).1.st = x.2 := congrArg Prod.snd ea
      rw [e1, e2]
      exact hx
  · by_cases hj : j + 1 < ls.length
    · rw [List.getElem?_append_left (by omega)] at h1 h2
      exact c.two j l l' h1 h2
    · have lj := (List.getElem?_eq_some_iff.mp h2).1
      rw [List.length_append, List.length_singleton] at lj
      have hj : j + 1 = ls.length := by omega
      rw [List.getElem?_append_left (by omega)] at h1
      rw [hj, List.getElem?_append_right (Nat.le_refl _), Nat.sub_self] at h2
      cases h2
      rw [ea]
      refine c.lst l ?_
      rw [List.getLast?_eq_getElem?, ← hj]
      exact h1
  · cases hl : ls with
    | nil =>
      rw [hl] at h
      cases h
      rw [ea]
      have := c.non hl
      cases this
      rfl
    | cons a t =>
      refine c.fst l ?_
      rw [hl] at h ⊢
      exact h
  · rw [List.getLast?_append, List.getLast?_singleton, Option.some_or] at h
    cases h
    rw [ea]
theorem run_chain {R : Rob} {s : Str} {G : List (List Res)} {x0 : Int × Int} (hR : RobWf R) (g : GWf R.length G) : ∀ (f : Nat) (seen : List (Int × Int)) (ls : List Leg) (x : Int × Int),
    (0 ≤ x.1 ∧ x.1 < ((1 + G.length : Nat) : Int) ∧ 0 ≤ x.2 ∧ x.2 < (R.length : Nat)) → Chain R s G x0 ls (.inr x) → seen = ls.map Leg.at → seen.Nodup → f + seen.length = (1 + G.length) * R.length + 1 →
    (∀ y ∈ seen, 0 ≤ y.1 ∧ y.1 < ((1 + G.length : Nat) : Int) ∧ 0 ≤ y.2 ∧ y.2 < (R.length : Nat)) →
    (∃ r, (run R s G f seen ls x).2.1 = r ∧ (run R s G f seen ls x).2.2 = none ∧ Chain R s G x0 (run R s G f seen ls x).1 (.inl r) ∧ (run R s G f seen ls x).1 ≠ []) ∨
    (∃ a l, (run R s G f seen ls x).2.1 = .ever ∧ (run R s G f seen ls x).2.2 = some a ∧ (run R s G f seen ls x).1[a]? = some l ∧ Chain R s G x0 (run R s G f seen ls x).1 (.inr l.at))
  | 0, seen, ls, x, hx, c, e, nd, hf, hs => by
    have := nodup_pairs (D := 1 + G.length) (n := R.length) nd hs
    omega
  | f + 1, seen, ls, x, hx, c, e, nd, hf, hs => by
    rw [run]
    by_cases hm : x ∈ seen
    · rw [if_pos hm]
      refine .inr ?_
      have hm2 := hm
      rw [e] at hm2
      have hi : seen.idxOf x < seen.length := List.idxOf_lt_length_of_mem hm
      have hi2 : seen.idxOf x < ls.length := by rw [e, List.length_map] at hi; rw [e]; exact hi
      refine ⟨seen.idxOf x, ls[seen.idxOf x], rfl, rfl, List.getElem?_eq_getElem hi2, ?_⟩
      have : (ls[seen.idxOf x]).at = x := by
        have h1 : seen[seen.idxOf x]? = some x := by rw [List.getElem?_eq_getElem hi, List.getElem_idxOf hi]
        generalize seen.idxOf x = k at h1 hi2
        rw [e, List.getElem?_map, List.getElem?_eq_getElem hi2] at h1
        exact Option.some.inj h1
      rw [this]
      exact c
    · rw [if_neg hm]
      have lw := legStep_wf (s := s) hR g hx
      have cs := c.snoc hx
      cases hy : (legStep R s G x).2 with
      | inl r =>
        rw [hy] at cs
        exact .inl ⟨r, rfl, rfl, cs, by simp⟩
      | inr y =>
        rw [hy] at cs
        have ea := legStep_at R s G x
        refine run_chain hR g f (seen ++ [x]) _ y (lw.2 y hy) cs (by rw [List.map_append, ← e, List.map_singleton, ea]) ?_ (by rw [List.length_append, List.length_singleton]; omega) fun z hz => ?_
        · rw [List.nodup_append]
          exact ⟨nd, by simp, fun a ha b hb q => hm (by rw [← List.mem_singleton.mp hb, ← q]; exact ha)⟩
        · rcases List.mem_append.mp hz with h | h
          · exact hs z h
          · rw [List.mem_singleton.mp h]; exact hx
theorem legs_chain {R : Rob} {s : Str} {G : List (List Res)} {st : Int} (hR : RobWf R) (g : GWf R.length G) (h0 : 0 ≤ st) (h1 : st < R.length) :
    (∃ r, (legs R s G st).2.1 = r ∧ (legs R s G st).2.2 = none ∧ Chain R s G (0, st) (legs R s G st).1 (.inl r) ∧ (legs R s G st).1 ≠ []) ∨
    (∃ a l, (legs R s G st).2.1 = .ever ∧ (legs R s G st).2.2 = some a ∧ (legs R s G st).1[a]? = some l ∧ Chain R s G (0, st) (legs R s G st).1 (.inr l.at)) :=
  run_chain hR g _ [] [] (0, st) ⟨by simp, by simp; omega, h0, h1⟩ ⟨by simp, fun j l l' h => by simp at h, fun l h => by simp at h, fun l h => by simp at h, fun _ => rfl⟩ rfl List.nodup_nil rfl (by simp)
def legO (T : List (List (Option Nat))) (l : Leg) : Option Nat := match l.bran with
  | none => some (if l.next.isNone = true then 0 else 1)
  | some i => match l.next with
    | some b => ((T.getD i.toNat []).getD b.toNat none).map (1 + ·)
    | none => some 0
section
variable {R : Rob} {s : Str} {bs : List Maze} {l : Leg}
theorem leg_sem (hR : RobWf R) (h : l = (legStep R s (resBs R bs) l.at).1) (hd : 0 ≤ l.door ∧ l.door < ((1 + (resBs R bs).length : Nat) : Int) ∧ 0 ≤ l.st ∧ l.st < R.length) :
    (l.bran = none ∧ (∃ r, (legStep R s (resBs R bs) l.at).2 = .inl r) ∧ ∀ n, aft (.mk s bs) R (n + 1) l.std = none) ∨
    (∃ i : Nat, ∃ b : Int, l.bran = some ((i : Nat) : Int) ∧ l.next = some b ∧ i < bs.length ∧ 0 ≤ b ∧ b < R.length ∧ (∀ n, aft (.mk s bs) R (n + 1) l.std = aft (.mk s bs) R n ⟨[((i : Nat) : Int) + 1], 0, b⟩) ∧
      (legStep R s (resBs R bs) l.at).2 = match ((resBs R bs).getD i []).getD b.toNat default with
        | .out k => .inr (((i : Nat) : Int) + 1, k)
        | r => .inl r) := by
  have lG : (resBs R bs).length = bs.length := by rw [resBs_map, List.length_map]
  rw [lG] at hd
  have dw := deedOf_wf hR hd.2.2.1 hd.2.2.2 s (1 + (bs.length : Nat))
  have ws : ∀ n, aft (.mk s bs) R (n + 1) l.std = match (gStep R s (1 + (bs.length : Nat)) l.std).2 with
      | .inr y => aft (.mk s bs) R n y
      | .inl _ => none := fun n => by
    rw [aft]
    unfold wStep
    rw [show l.std.path = [] from rfl, Maze.at_nil]
    rfl
  unfold legStep at h ⊢
  simp only [Leg.at, lG] at h ⊢
  simp only [gStep] at ws
  have ws2 : ∀ n, aft (.mk s bs) R (n + 1) l.std = match (match deedOf (R.getD l.st.toNat []) (ruleOf (R.getD l.st.toNat []) s (1 + (bs.length : Nat))) with
      | .stop w => (.inl (.stop w) : Res ⊕ Std)
      | .go a b => if (l.door + a) % (1 + (bs.length : Nat)) ≤ 0 then .inl (.out b) else .inr ⟨[(l.door + a) % (1 + (bs.length : Nat))], 0, b⟩) with
      | .inr y => aft (.mk s bs) R n y
      | .inl _ => none := fun n => by
    rw [ws n]
    show (match (match deedOf (R.getD l.st.toNat []) (ruleOf (R.getD l.st.toNat []) s (1 + (bs.length : Nat))) with
      | .stop w => (.inl (.stop w) : Res ⊕ Std)
      | .go a b => if 0 < (l.door + a) % (1 + (bs.length : Nat)) then .inr ⟨[(l.door + a) % (1 + (bs.length : Nat))], 0, b⟩ else .inl (.out b)) with
      | .inr y => aft (.mk s bs) R n y
      | .inl _ => none) = _
    cases deedOf (R.getD l.st.toNat []) (ruleOf (R.getD l.st.toNat []) s (1 + (bs.length : Nat))) with
    | stop v => rfl
    | go a b =>
      simp only
      by_cases z : 0 < (l.door + a) % (1 + (bs.length : Nat))
      · rw [if_pos z, if_neg (by omega)]
      · rw [if_neg z, if_pos (by omega)]
  replace ws := ws2
  cases e : deedOf (R.getD l.st.toNat []) (ruleOf (R.getD l.st.toNat []) s (1 + (bs.length : Nat))) with
  | stop v =>
    rw [e] at h ws
    simp only at h ws ⊢
    exact .inl ⟨by rw [h], ⟨_, rfl⟩, ws⟩
  | go a b =>
    rw [e] at h dw ws
    obtain ⟨a0, a1, b0, b1⟩ := dw
    have m0 := Int.emod_nonneg (l.door + a) (show (1 : Int) + (bs.length : Nat) ≠ 0 by omega)
    have m1 := Int.emod_lt_of_pos (l.door + a) (show (0 : Int) < 1 + (bs.length : Nat) by omega)
    simp only at h ws ⊢
    obtain ⟨o, ho⟩ : ∃ o, (l.door + a) % (1 + (bs.length : Nat)) = o := ⟨_, rfl⟩
    rw [ho] at h ws m0 m1 ⊢
    by_cases z : o = 0
    · rw [if_pos z] at h
      rw [if_pos z]
      rw [if_pos (by omega)] at ws
      exact .inl ⟨by rw [h], ⟨_, rfl⟩, ws⟩
    · rw [if_neg z] at h
      rw [if_neg z]
      rw [if_neg (by omega)] at ws
      refine .inr ⟨(o - 1).toNat, b, by rw [h]; simp only; congr 1; omega, by rw [h], by omega, b0, b1, fun n => ?_, ?_⟩
      · rw [ws n]
        simp only [List.nil_append]
        rw [show (((o - 1).toNat : Nat) : Int) + 1 = o by omega]
      · simp only
        rw [show (((o - 1).toNat : Nat) : Int) + 1 = o by omega]
        try (cases ((resBs R bs).getD (o - 1).toNat []).getD b.toNat default <;> rfl)
theorem getB {i : Nat} (hi : i < bs.length) : bs[i]? = some (bs.getD i dM) ∧ (resBs R bs).getD i [] = resB R (bs.getD i dM) ∧ (stBs R bs).getD i [] = stB R (bs.getD i dM) := by
  have hb : bs[i]? = some bs[i] := List.getElem?_eq_getElem hi
  have e : bs.getD i dM = bs[i] := by rw [List.getD_eq_getElem?_getD, hb]; rfl
  rw [e]
  exact ⟨hb, by rw [resBs_map, List.getD_eq_getElem?_getD, List.getElem?_map, hb]; rfl, by rw [stBs_map, List.getD_eq_getElem?_getD, List.getElem?_map, hb]; rfl⟩
theorem st_none {b : Maze} (hR : RobWf R) (w : b.Wf) {st : Int} (h0 : 0 ≤ st) (h1 : st < R.length) (h : (resB R b).getD st.toNat default ≠ .ever) : ∃ v, (stB R b).getD st.toNat none = some v :=
  Option.isSome_iff_exists.mp ((maze_endsN (m := b) hR _ b [] (Nat.le_refl _) w (Maze.at_nil b) st h0 h1).2 h)
theorem leg_inside (hR : RobWf R) (w : (Maze.mk s bs).Wf) {i : Nat} {b : Int} {n : Nat} (hi : i < bs.length) (b0 : 0 ≤ b) (b1 : b < R.length)
    (hs : ∀ n, aft (.mk s bs) R (n + 1) l.std = aft (.mk s bs) R n ⟨[((i : Nat) : Int) + 1], 0, b⟩) (hb : l.bran = some ((i : Nat) : Int)) (hn : l.next = some b)
    (hc : legO (stBs R bs) l = none ∨ (∀ k, ((resBs R bs).getD i []).getD b.toNat default ≠ .out k) ∨ ∃ v, legO (stBs R bs) l = some v ∧ n + 1 < v) :
    aft (.mk s bs) R (n + 1) l.std = (aft (bs.getD i dM) R n (gate b)).map (Std.pre (((i : Nat) : Int) + 1)) := by
  obtain ⟨e1, e2, e3⟩ := getB (R := R) hi
  rw [hs n]
  refine aft_branch hR w e1 b0 b1 fun k hk => ?_
  have wb : (bs.getD i dM).Wf := w.mem (List.mem_of_getElem? e1)
  obtain ⟨v, hv⟩ := st_none hR wb b0 b1 (by rw [hk]; intro z; cases z)
  rw [hv]
  simp only [legO, hb, hn, Int.toNat_natCast, e3, hv, Option.map_some] at hc
  rw [e2] at hc
  rcases hc with hc | hc | ⟨v', hc, hlt⟩
  · cases hc
  · exact absurd hk (hc k)
  · have := Option.some.inj hc
    simp only [Option.getD_some]
    omega
theorem leg_over (hR : RobWf R) (w : (Maze.mk s bs).Wf) (h : l = (legStep R s (resBs R bs) l.at).1) (hd : 0 ≤ l.door ∧ l.door < ((1 + (resBs R bs).length : Nat) : Int) ∧ 0 ≤ l.st ∧ l.st < R.length) {y : Int × Int} (hy : (legStep R s (resBs R bs) l.at).2 = .inr y) :
    ∃ v, legO (stBs R bs) l = some v ∧ 0 < v ∧ ∀ n, aft (.mk s bs) R (v + n) l.std = aft (.mk s bs) R n ⟨[], y.1, y.2⟩ := by
  rcases leg_sem hR h hd with ⟨_, ⟨r, hr⟩, _⟩ | ⟨i, b, hb, hn, hi, b0, b1, hs, hnx⟩
  · rw [hr] at hy
    cases hy
  · obtain ⟨e1, e2, e3⟩ := getB (R := R) hi
    rw [hy, e2] at hnx
    have wb : (bs.getD i dM).Wf := w.mem (List.mem_of_getElem? e1)
    cases hk : (resB R (bs.getD i dM)).getD b.toNat default with
    | out k =>
      rw [hk] at hnx
      cases hnx
      obtain ⟨v, hv⟩ := st_none hR wb b0 b1 (by rw [hk]; intro z; cases z)
      refine ⟨1 + v, by simp only [legO, hb, hn, Int.toNat_natCast, e3, hv, Option.map_some], by omega, fun n => ?_⟩
      have := aft_left (n := n) hR w e1 b0 b1 hk
      rw [hv] at this
      rw [show 1 + v + n = (v + n) + 1 by omega, hs (v + n)]
      exact this
    | ever => rw [hk] at hnx; cases hnx
    | stop v => rw [hk] at hnx; cases hnx
end
def LBok (M : Maze) (R : Rob) (bs : List Maze) (st : Int) (n : Nat) : Option (Leg × Nat) → Prop
  | none => aft M R n (gate st) = none
  | some (l, u) => (u = 0 ∧ aft M R n (gate st) = some l.std) ∨ (∃ (i : Nat) (b : Int) (u' : Nat), u = u' + 1 ∧ l.bran = some ((i : Nat) : Int) ∧ l.next = some b ∧ i < bs.length ∧ 0 ≤ b ∧ b < R.length ∧ aft M R n (gate st) = (aft (bs.getD i dM) R u' (gate b)).map (Std.pre (((i : Nat) : Int) + 1)))
structure Ring (R : Rob) (s : Str) (G : List (List Res)) (st : Int) (L : List Leg) (ag : Option Nat) : Prop where
  one : ∀ l ∈ L, l = (legStep R s G l.at).1 ∧ 0 ≤ l.door ∧ l.door < ((1 + G.length : Nat) : Int) ∧ 0 ≤ l.st ∧ l.st < R.length
  fst : ∃ l, L[0]? = some l ∧ l.at = (0, st)
  ag_lt : ∀ a, ag = some a → a < L.length
  fin : ∀ (j : Nat) (l : Leg), L[j]? = some l → j + 1 = L.length → ag = none → ∃ r, (legStep R s G l.at).2 = .inl r
  nxt : ∀ (j : Nat) (l : Leg), L[j]? = some l → j + 1 < L.length → ∃ l', L[j + 1]? = some l' ∧ (legStep R s G l.at).2 = .inr l'.at
  rnd : ∀ (j : Nat) (l : Leg), L[j]? = some l → j + 1 = L.length → ∀ a, ag = some a → ∃ la, L[a]? = some la ∧ (legStep R s G l.at).2 = .inr la.at
theorem legs_ring {R : Rob} {s : Str} {G : List (List Res)} {st : Int} (hR : RobWf R) (g : GWf R.length G) (h0 : 0 ≤ st) (h1 : st < R.length) : Ring R s G st (legs R s G st).1 (legs R s G st).2.2 := by
  have base : ∀ {e : Res ⊕ (Int × Int)} {L : List Leg} {ag : Option Nat}, Chain R s G (0, st) L e → L ≠ [] → (∀ a, ag = some a → a < L.length) → (ag = none → ∃ r, e = .inl r) → (∀ a, ag = some a → ∃ la, L[a]? = some la ∧ e = .inr la.at) → Ring R s G st L ag := fun {e L ag} c ne h1 h2 h3 => by
    have p : 0 < L.length := by cases L with | nil => exact absurd rfl ne | cons a t => simp
    have lst : ∀ (j : Nat) (l : Leg), L[j]? = some l → j + 1 = L.length → (legStep R s G l.at).2 = e := fun j l hl hj => c.lst l (by rw [List.getLast?_eq_getElem?, ← hj]; exact hl)
    refine ⟨c.one, ⟨L[0], List.getElem?_eq_getElem p, c.fst _ (List.getElem?_eq_getElem p)⟩, h1, fun j l hl hj ha => ?_, fun j l hl hj => ⟨L[j + 1], List.getElem?_eq_getElem hj, c.two j l _ hl (List.getElem?_eq_getElem hj)⟩, fun j l hl hj a ha => ?_⟩
    · obtain ⟨r, hr⟩ := h2 ha
      exact ⟨r, by rw [lst j l hl hj, hr]⟩
    · obtain ⟨la, e1, e2⟩ := h3 a ha
      exact ⟨la, e1, by rw [lst j l hl hj, e2]⟩
  rcases legs_chain (s := s) hR g h0 h1 with ⟨r, _, e2, c, ne⟩ | ⟨a, l, _, e2, e3, c⟩
  · rw [e2]
    exact base c ne (fun a h => by cases h) (fun _ => ⟨r, rfl⟩) (fun a h => by cases h)
  · rw [e2]
    have la := (List.getElem?_eq_some_iff.mp e3).1
    exact base c (fun z => by rw [z] at la; simp at la) (fun a' h => by cases h; exact la) (fun h => by cases h) (fun a' h => by cases h; exact ⟨l, e3, rfl⟩)
def lv (T : List (List (Option Nat))) (l : Leg) : Nat := (legO T l).getD 0
section
variable {R : Rob} {s : Str} {bs : List Maze} {st : Int} {L : List Leg} {ag : Option Nat}
theorem ring_turn (hR : RobWf R) (w : (Maze.mk s bs).Wf) (r : Ring R s (resBs R bs) st L ag) {a : Nat} (ha : ag = some a) {la : Leg} (hla : L[a]? = some la) : ∀ (k j : Nat) (l : Leg), j + 1 + k = L.length → L[j]? = some l →
    (∀ l' ∈ L.drop j, (legO (stBs R bs) l').isSome = true) ∧ 0 < ((L.drop j).map (lv (stBs R bs))).sum ∧ ∀ n, aft (.mk s bs) R (((L.drop j).map (lv (stBs R bs))).sum + n) l.std = aft (.mk s bs) R n la.std
  | 0, j, l, hj, hl => by
    obtain ⟨hlt, hlj⟩ := List.getElem?_eq_some_iff.mp hl
    obtain ⟨la', e1, e2⟩ := r.rnd j l hl (by omega) a ha
    rw [hla] at e1
    cases e1
    obtain ⟨o1, o2⟩ := r.one l (List.mem_of_getElem? hl)
    obtain ⟨v, hv, v0, hs⟩ := leg_over hR w o1 o2 e2
    rw [List.drop_eq_getElem_cons hlt, hlj, List.drop_eq_nil_of_le (by omega)]
    refine ⟨fun l' h => by rw [List.mem_singleton.mp h, hv]; rfl, by simp [lv, hv]; omega, fun n => ?_⟩
    rw [List.map_singleton, List.sum_singleton, lv, hv, Option.getD_some, hs n]
    rfl
  | k + 1, j, l, hj, hl => by
    obtain ⟨hlt, hlj⟩ := List.getElem?_eq_some_iff.mp hl
    obtain ⟨l', e1, e2⟩ := r.nxt j l hl (by omega)
    obtain ⟨i1, i2, i3⟩ := ring_turn hR w r ha hla k (j + 1) l' (by omega) e1
    obtain ⟨o1, o2⟩ := r.one l (List.mem_of_getElem? hl)
    obtain ⟨v, hv, v0, hs⟩ := leg_over hR w o1 o2 e2
    rw [List.drop_eq_getElem_cons hlt, hlj]
    refine ⟨fun l2 h => ?_, ?_, fun n => ?_⟩
    · rcases List.mem_cons.mp h with h | h
      · rw [h, hv]; rfl
      · exact i1 l2 h
    · rw [List.map_cons, List.sum_cons]
      omega
    · rw [List.map_cons, List.sum_cons, show lv (stBs R bs) l = v by simp [lv, hv], Nat.add_assoc, hs, ← i3 n]
      rfl
end
end PD
namespace PD
open PySem PySem.Spec PyProof.Rows L2
def meIn (T : List (List (Option Nat))) (l : Leg) : Option Nat := match l.bran with
  | none => some 0
  | some i => match l.next with
    | some b => (T.getD i.toNat []).getD b.toNat none
    | none => some 0
def meOf (g s : Str) (T : List (List (Option Nat))) (t : List Leg × Res × Option Nat) : Option Nat :=
  if t.2.1 = .ever then none else some (t.1.length * (if s = g then 1 else 0) + (t.1.map fun l => (meIn T l).getD 0).sum)
mutual
def meB (R : Rob) (g : Str) : Maze → List (Option Nat)
  | .mk s bs => (List.range R.length).map fun i : Nat => meOf g s (meBs R g bs) (legs R s (resBs R bs) (i : Nat))
def meBs (R : Rob) (g : Str) : List Maze → List (List (Option Nat))
  | [] => []
  | b :: bs => meB R g b :: meBs R g bs
end
theorem meBs_map (R : Rob) (g : Str) : ∀ bs : List Maze, meBs R g bs = bs.map (meB R g)
  | [] => rfl
  | b :: bs => by rw [meBs, meBs_map R g bs]; rfl
theorem meB_len (R : Rob) (g : Str) : ∀ m : Maze, (meB R g m).length = R.length
  | .mk s bs => by simp [meB]
theorem meB_get {R : Rob} {g s : Str} {bs : List Maze} {st : Int} (h0 : 0 ≤ st) (h1 : st < R.length) : (meB R g (.mk s bs)).getD st.toNat none = meOf g s (meBs R g bs) (legs R s (resBs R bs) st) := by
  rw [meB, range_get h0 h1, show ((st.toNat : Nat) : Int) = st by omega]
theorem res_get {R : Rob} {s : Str} {bs : List Maze} {st : Int} (h0 : 0 ≤ st) (h1 : st < R.length) : (resB R (.mk s bs)).getD st.toNat default = (legs R s (resBs R bs) st).2.1 := by rw [resB, roomR_get R _ _ h0 h1]
theorem meB_some {R : Rob} {g : Str} : ∀ {m : Maze} {st : Int}, 0 ≤ st → st < R.length → (resB R m).getD st.toNat default ≠ .ever → ∃ v, (meB R g m).getD st.toNat none = some v
  | .mk s bs, st, h0, h1, h => by
    rw [res_get h0 h1] at h
    rw [meB_get h0 h1, meOf, if_neg h]
    exact ⟨_, rfl⟩
theorem meB_none {R : Rob} {g : Str} : ∀ {m : Maze} {st : Int}, 0 ≤ st → st < R.length → (resB R m).getD st.toNat default = .ever → (meB R g m).getD st.toNat none = none
  | .mk s bs, st, h0, h1, h => by
    rw [res_get h0 h1] at h
    rw [meB_get h0 h1, meOf, if_pos h]
mutual
def AllS (gs : List Str) : Maze → Prop
  | .mk s bs => s ∈ gs ∧ AllSs gs bs
def AllSs (gs : List Str) : List Maze → Prop
  | [] => True
  | b :: bs => AllS gs b ∧ AllSs gs bs
end
theorem AllSs.iff {gs : List Str} : ∀ {bs : List Maze}, AllSs gs bs ↔ ∀ b ∈ bs, AllS gs b
  | [] => by simp [AllSs]
  | b :: bs => by rw [AllSs, AllSs.iff]; simp
theorem sum_swap {α β : Type} (f : α → β → Nat) (xs : List α) : ∀ ys : List β, (ys.map fun y => (xs.map fun x => f x y).sum).sum = (xs.map fun x => (ys.map fun y => f x y).sum).sum
  | [] => by
    induction xs with
    | nil => rfl
    | cons x t ih =>
      simp only [List.map_cons, List.sum_cons, List.map_nil, List.sum_nil] at ih ⊢
      omega
  | y :: ys => by
    rw [List.map_cons, List.sum_cons, sum_swap f xs ys]
    induction xs with
    | nil => rfl
    | cons x t ih =>
      simp only [List.map_cons, List.sum_cons] at ih ⊢
      omega
theorem sum_one {gs : List Str} {s : Str} (nd : gs.Nodup) (h : s ∈ gs) : (gs.map fun g => if s = g then 1 else 0).sum = 1 := by
  induction gs with
  | nil => cases h
  | cons g t ih =>
    rw [List.nodup_cons] at nd
    rw [List.map_cons, List.sum_cons]
    by_cases e : s = g
    · subst e
      rw [if_pos rfl]
      have : (t.map fun g => if s = g then 1 else 0).sum = 0 := by
        clear ih h
        induction t with
        | nil => rfl
        | cons a r ih =>
          rw [List.map_cons, List.sum_cons, if_neg (fun q => nd.1 (by rw [q]; exact List.mem_cons_self)), ih ⟨fun q => nd.1 (List.mem_cons_of_mem _ q), (List.nodup_cons.mp nd.2).2⟩]
      omega
    · rw [if_neg e, ih nd.2 (by rcases List.mem_cons.mp h with q | q; exact absurd q e; exact q)]
theorem sum_zero {α : Type} : ∀ xs : List α, (xs.map fun _ => (some 0 : Option Nat).getD 0).sum = 0
  | [] => rfl
  | x :: xs => by rw [List.map_cons, List.sum_cons, sum_zero xs]; rfl
theorem sum_mul_left {α : Type} (n : Nat) (f : α → Nat) : ∀ xs : List α, (xs.map fun x => n * f x).sum = n * (xs.map f).sum
  | [] => rfl
  | x :: xs => by rw [List.map_cons, List.sum_cons, sum_mul_left n f xs, List.map_cons, List.sum_cons, Nat.mul_add]
theorem sum_plus {α : Type} (f g : α → Nat) : ∀ xs : List α, (xs.map fun x => f x + g x).sum = (xs.map f).sum + (xs.map g).sum
  | [] => rfl
  | x :: xs => by
    rw [List.map_cons, List.sum_cons, sum_plus f g xs, List.map_cons, List.sum_cons, List.map_cons, List.sum_cons]
    omega
def stp : Res → Nat
  | .stop _ => 1
  | _ => 0
theorem leg_end {R : Rob} {s : Str} {G : List (List Res)} {l : Leg} {r : Res} (h : l = (legStep R s G l.at).1) (hb : l.bran = none) (hr : (legStep R s G l.at).2 = .inl r) : (stp r = 1 ∧ l.next = none) ∨ (stp r = 0 ∧ ∃ b, l.next = some b) := by
  unfold legStep at h hr
  simp only at h hr
  cases e : deedOf (R.getD l.at.2.toNat []) (ruleOf (R.getD l.at.2.toNat []) s (1 + (G.length : Nat))) with
  | stop v =>
    rw [e] at h hr
    simp only at h hr
    cases hr
    exact .inl ⟨rfl, by rw [h]⟩
  | go a b =>
    rw [e] at h hr
    simp only at h hr
    by_cases z : (l.at.1 + a) % (1 + (G.length : Nat)) = 0
    · rw [if_pos z] at h hr
      cases hr
      exact .inr ⟨rfl, _, by rw [h]⟩
    · rw [if_neg z] at h
      rw [h] at hb
      cases hb
theorem legs_sum {R : Rob} {s : Str} {bs : List Maze} {st : Int} (hR : RobWf R) (w : (Maze.mk s bs).Wf) (h0 : 0 ≤ st) (h1 : st < R.length) (hv : (legs R s (resBs R bs) st).2.1 ≠ .ever) {v : Maze → Int → Nat}
    (hb : ∀ b ∈ bs, ∀ st : Int, 0 ≤ st → st < R.length → (resB R b).getD st.toNat default ≠ .ever → v b st = ((stB R b).getD st.toNat none).getD 0 + stp ((resB R b).getD st.toNat default)) :
    ((legs R s (resBs R bs) st).1.map fun l => 1 + match l.bran, l.next with
      | some i, some b => v (bs.getD i.toNat dM) b
      | _, _ => 0).sum = ((legs R s (resBs R bs) st).1.map (legSt (stBs R bs))).sum + stp (legs R s (resBs R bs) st).2.1 := by
  rcases legs_chain (s := s) hR (resBs_g hR w) h0 h1 with ⟨r, e1, e2, c, ne⟩ | ⟨a, l, e1, _⟩
  · rw [e1] at hv ⊢
    generalize (legs R s (resBs R bs) st).1 = L at *
    clear e1 e2
    have key : ∀ (k j : Nat), j + k = L.length → ((L.drop j).map fun l => 1 + match l.bran, l.next with
      | some i, some b => v (bs.getD i.toNat dM) b
      | _, _ => 0).sum = ((L.drop j).map (legSt (stBs R bs))).sum + (if k = 0 then 0 else stp r) := fun k => by
      induction k with
      | zero => intro j hj; rw [List.drop_eq_nil_of_le (by omega)]; rfl
      | succ k ih =>
        intro j hj
        have hlt : j < L.length := by omega
        have ihj := ih (j + 1) (by omega)
        rw [List.drop_eq_getElem_cons hlt, List.map_cons, List.sum_cons, List.map_cons, List.sum_cons, ihj]
        obtain ⟨o1, o2⟩ := c.one L[j] (List.getElem_mem hlt)
        have sem := leg_sem hR o1 o2
        rw [if_neg (Nat.succ_ne_zero k)]
        by_cases hk : k = 0
        · rw [if_pos hk]
          have hl := c.lst L[j] (by rw [List.getLast?_eq_getElem?, show L.length - 1 = j by omega]; exact List.getElem?_eq_getElem hlt)
          rcases sem with ⟨hb0, ⟨r', hr'⟩, _⟩ | ⟨i, b, hbr, hn, hi, b0, b1, hs, hnx⟩
          · rw [hl] at hr'
            cases hr'
            have le := leg_end o1 hb0 hl
            generalize L[j] = l at *
            simp only [legSt, hb0]
            rcases le with ⟨x1, x2⟩ | ⟨x1, b, x2⟩
            · rw [x1, x2]
              simp
              omega
            · rw [x1, x2]
              simp
          · obtain ⟨f1, f2, f3⟩ := getB (R := R) hi
            rw [hl, f2] at hnx
            have hr : (resB R (bs.getD i dM)).getD b.toNat default = r := by
              cases hk : (resB R (bs.getD i dM)).getD b.toNat default with
              | out k => rw [hk] at hnx; cases hnx
              | ever => rw [hk] at hnx; cases hnx; rfl
              | stop v => rw [hk] at hnx; cases hnx; rfl
            have hv' := hb _ (List.mem_of_getElem? f1) b b0 b1 (by rw [hr]; exact hv)
            rw [hr] at hv'
            simp only [legSt, hbr, hn, Int.toNat_natCast, f3]
            rw [hv']
            omega
        · rw [if_neg hk]
          have hl := c.two j L[j] L[j + 1] (List.getElem?_eq_getElem hlt) (List.getElem?_eq_getElem (by omega))
          rcases sem with ⟨hb0, ⟨r', hr'⟩, _⟩ | ⟨i, b, hbr, hn, hi, b0, b1, hs, hnx⟩
          · rw [hl] at hr'
            cases hr'
          · obtain ⟨f1, f2, f3⟩ := getB (R := R) hi
            rw [hl, f2] at hnx
            obtain ⟨k', hr⟩ : ∃ k', (resB R (bs.getD i dM)).getD b.toNat default = .out k' := by
              cases hk : (resB R (bs.getD i dM)).getD b.toNat default with
              | out k => exact ⟨k, rfl⟩
              | ever => rw [hk] at hnx; cases hnx
              | stop v => rw [hk] at hnx; cases hnx
            have hv' := hb _ (List.mem_of_getElem? f1) b b0 b1 (by rw [hr]; intro z; cases z)
            rw [hr] at hv'
            simp only [legSt, hbr, hn, Int.toNat_natCast, f3]
            rw [hv']
            simp only [stp]
            omega
    have := key L.length 0 (by omega)
    rw [List.drop_zero] at this
    rw [this, if_neg (fun z => ne (List.length_eq_zero_iff.mp z))]
  · exact absurd e1 hv
theorem meets_sum {R : Rob} {gs : List Str} (hR : RobWf R) (nd : gs.Nodup) : ∀ (k : Nat) (m : Maze), m.size ≤ k → m.Wf → AllS gs m → ∀ st : Int, 0 ≤ st → st < R.length → (resB R m).getD st.toNat default ≠ .ever →
    (gs.map fun g => ((meB R g m).getD st.toNat none).getD 0).sum = ((stB R m).getD st.toNat none).getD 0 + stp ((resB R m).getD st.toNat default)
  | 0, m, h, _, _, _, _, _, _ => by have := m.size_pos; omega
  | k + 1, .mk s bs, h, w, a, st, h0, h1, hv => by
    obtain ⟨hs, ab⟩ := a
    rw [AllSs.iff] at ab
    have rg := res_get (s := s) (bs := bs) h0 h1
    rw [rg] at hv ⊢
    have e1 : (gs.map fun g => ((meB R g (.mk s bs)).getD st.toNat none).getD 0) = gs.map fun g => (legs R s (resBs R bs) st).1.length * (if s = g then 1 else 0) + ((legs R s (resBs R bs) st).1.map fun l => (meIn (meBs R g bs) l).getD 0).sum := by
      refine List.map_congr_left fun g _ => ?_
      rw [meB_get h0 h1, meOf, if_neg hv]
      rfl
    rw [e1, sum_plus, sum_mul_left, sum_one nd hs, Nat.mul_one, sum_swap]
    have lo := legs_sum (v := fun b st => (gs.map fun g => ((meB R g b).getD st.toNat none).getD 0).sum) hR w h0 h1 hv (fun b hb st h0 h1 hv => by
      refine meets_sum hR nd k b ?_ (w.mem hb) (ab b hb) st h0 h1 hv
      have := Maze.kid_size hb
      rw [Maze.size] at h
      omega)
    rw [stB, range_get h0 h1, show ((st.toNat : Nat) : Int) = st by omega, stepsOf, if_neg hv, Option.getD_some, ← lo]
    have li := (legs_in (s := s) hR (resBs_g hR w) h0 h1).1
    generalize (legs R s (resBs R bs) st).1 = L at li ⊢
    clear lo e1 hv rg
    induction L with
    | nil => rfl
    | cons l t ih =>
      have ih := ih fun l hl => li l (List.mem_cons_of_mem _ hl)
      have hl := li l List.mem_cons_self
      simp only [List.length_cons, List.map_cons, List.sum_cons] at ih ⊢
      rw [← ih]
      have : (gs.map fun g => (meIn (meBs R g bs) l).getD 0).sum = match l.bran, l.next with
          | some i, some b => (gs.map fun g => ((meB R g (bs.getD i.toNat dM)).getD b.toNat none).getD 0).sum
          | _, _ => 0 := by
        rcases hl.ok with hb | ⟨i, b, hb, hn, i0, i1, b0, b1⟩
        · simp only [meIn, hb]
          exact sum_zero gs
        · simp only [meIn, hb, hn]
          congr 1
          refine List.map_congr_left fun g _ => ?_
          have il : i.toNat < bs.length := by
            rw [resBs_map, List.length_map] at i1
            omega
          rw [meBs_map, List.getD_eq_getElem?_getD (l := bs.map (meB R g)), List.getElem?_map, List.getElem?_eq_getElem il, List.getD_eq_getElem?_getD (l := bs), List.getElem?_eq_getElem il]
          rfl
      rw [this]
      omega
theorem unf_allS {P : Plan} {gs : List Str} (h : ∀ e ∈ P, e.1 ∈ gs) : PlanWf P → ∀ m ∈ unf P, AllS gs m := by
  induction P using snoc_ind with
  | h0 => intro _ m hm; cases hm
  | hs P e ih =>
    intro hw m hm
    have ih := ih (fun e he => h e (by simp [he])) (PlanWf.left hw)
    rw [unf_snoc] at hm
    rcases List.mem_append.mp hm with hm | hm
    · exact ih m hm
    · rw [List.mem_singleton.mp hm]
      refine ⟨h e (by simp), AllSs.iff.mpr fun b hb => ?_⟩
      obtain ⟨n, hn, rfl⟩ := List.mem_map.mp hb
      have nl := hw.last.2.2 n hn
      have : n < (unf P).length := by rw [unf_len]; exact nl
      rw [List.getD_eq_getElem?_getD, List.getElem?_eq_getElem this]
      exact ih _ (List.getElem_mem this)
theorem st_some_res {R : Rob} : ∀ {m : Maze} {st : Int}, 0 ≤ st → st < R.length → ((stB R m).getD st.toNat none).isSome = true → (resB R m).getD st.toNat default ≠ .ever
  | .mk s bs, st, h0, h1, h => by
    rw [res_get h0 h1]
    rw [stB, range_get h0 h1, show ((st.toNat : Nat) : Int) = st by omega, stepsOf] at h
    intro z
    rw [if_pos z] at h
    cases h
theorem meIn_some {R : Rob} {g : Str} {bs : List Maze} {l : Leg} (li : LegIn bs.length R.length l) (lo : legOk (stBs R bs) l) : ∃ v, meIn (meBs R g bs) l = some v := by
  rcases li.ok with hb | ⟨i, b, hb, hn, i0, i1, b0, b1⟩
  · exact ⟨0, by simp only [meIn, hb]⟩
  · have il : i.toNat < bs.length := by omega
    have e1 : (meBs R g bs).getD i.toNat [] = meB R g bs[i.toNat] := by rw [meBs_map, List.getD_eq_getElem?_getD, List.getElem?_map, List.getElem?_eq_getElem il]; rfl
    have e2 : (stBs R bs).getD i.toNat [] = stB R bs[i.toNat] := by rw [stBs_map, List.getD_eq_getElem?_getD, List.getElem?_map, List.getElem?_eq_getElem il]; rfl
    have := lo i b hb hn
    rw [e2] at this
    obtain ⟨v, hv⟩ := meB_some (g := g) b0 b1 (st_some_res b0 b1 this)
    exact ⟨v, by simp only [meIn, hb, hn]; rw [e1, hv]⟩
theorem meIn_filter {T : List (List (Option Nat))} : ∀ L : List Leg, ((L.filter fun l => l.bran.isSome).map fun l => (meIn T l).getD 0).sum = (L.map fun l => (meIn T l).getD 0).sum
  | [] => rfl
  | l :: L => by
    rw [List.map_cons, List.sum_cons]
    cases hb : l.bran with
    | none =>
      rw [List.filter_cons_of_neg (by rw [hb]; simp), meIn_filter L]
      simp [meIn, hb]
    | some i => rw [List.filter_cons_of_pos (by rw [hb]; rfl), List.map_cons, List.sum_cons, meIn_filter L]
end PD
namespace Wk
open PySem PySem.Spec PyProof.Rows L2 PD
def m_rule_for_3 : SM := sRet (eV 4)
def m_rule_for_2 : SM := sIf (bAnd (bB (e2 (inV false) (e2 ixV (eV 5) (eC (.int 0))) (eA mkTup (aC (eC .none) (aC (eV 2) (aN)))))) (bB (e2 (inV false) (e2 ixV (eV 5) (eC (.int 1))) (eA mkTup (aC (eC .none) (aC (eV 3) (aN))))))) (m_rule_for_3) (sNx)
def m_rule_for_1 : SM := sFor (ggTup 2 (ggCons (gSet 4) (ggCons (gSet 5) (ggNil)))) (iA enumV (aC (e2 ixV (eV 0) (eV 1)) (aN)))
    (m_rule_for_2)
def m_rule_for_4 : SM := sRet (eC .none)
def m_rule_for : SM := sSeq m_rule_for_1 m_rule_for_4
theorem m_rule_for_3_E {fr : Fr} {S : Store} : m_rule_for_3 fr S = (sRet (eV 4)) fr S := rfl
theorem m_rule_for_2_E {fr : Fr} {S : Store} : m_rule_for_2 fr S = (sIf (bAnd (bB (e2 (inV false) (e2 ixV (eV 5) (eC (.int 0))) (eA mkTup (aC (eC .none) (aC (eV 2) (aN)))))) (bB (e2 (inV false) (e2 ixV (eV 5) (eC (.int 1))) (eA mkTup (aC (eC .none) (aC (eV 3) (aN))))))) (m_rule_for_3) (sNx)) fr S := rfl
theorem m_rule_for_1_E {fr : Fr} {S : Store} : m_rule_for_1 fr S = (sFor (ggTup 2 (ggCons (gSet 4) (ggCons (gSet 5) (ggNil)))) (iA enumV (aC (e2 ixV (eV 0) (eV 1)) (aN)))
    (m_rule_for_2)) fr S := rfl
theorem m_rule_for_4_E {fr : Fr} {S : Store} : m_rule_for_4 fr S = (sRet (eC .none)) fr S := rfl
theorem m_rule_for_E {fr : Fr} {S : Store} : m_rule_for fr S = (sSeq m_rule_for_1 m_rule_for_4) fr S := rfl
def F_rule_for : FN := bodyF 6 m_rule_for
def m_deed_by_1 : SM := sRet (eIf (bB (e2 (isV false) (eV 2) (eC .none))) (eA mkTup (aC (eC (.str "stop")) (aC (eC (.str "lost")) (aN)))) (e2 ixV (e2 ixV (e2 ixV (eV 0) (eV 1)) (eV 2)) (eC (.int 2))))
def m_deed_by : SM := m_deed_by_1
theorem m_deed_by_1_E {fr : Fr} {S : Store} : m_deed_by_1 fr S = (sRet (eIf (bB (e2 (isV false) (eV 2) (eC .none))) (eA mkTup (aC (eC (.str "stop")) (aC (eC (.str "lost")) (aN)))) (e2 ixV (e2 ixV (e2 ixV (eV 0) (eV 1)) (eV 2)) (eC (.int 2))))) fr S := rfl
theorem m_deed_by_E {fr : Fr} {S : Store} : m_deed_by fr S = (m_deed_by_1) fr S := rfl
def F_deed_by : FN := bodyF 3 m_deed_by
def m_legs_of_1 : SM := sPar [4, 5, 6, 7] 12 (aC (e2 addV (eC (.int 1)) (eA1 lenV (eV 2))) (aC (eC (.int 0)) (aC (eA mkLst (aN)) (aC (eC (.dict [])) (aN)))))
def m_legs_of_3 : SM := sPutD 7 (eA1 lenV (eP 6)) (eA mkTup (aC (eV 5) (aC (eV 3) (aN))))
def m_legs_of_4 : SM := sAsg (gSet 8) (fE (eCall 4 F_rule_for (aC (eV 0) (aC (eV 3) (aC (eV 1) (aC (eV 4) (aN)))))))
def m_legs_of_5 : SM := sAsg (gSet 9) (fE (eCall 3 F_deed_by (aC (eV 0) (aC (eV 3) (aC (eV 8) (aN))))))
def m_legs_of_7 : SM := sRet (eA mkTup (aC (e2 addV (eP 6) (eA mkLst (aC (eA mkTup (aC (eV 5) (aC (eV 3) (aC (eV 8) (aC (eC .none) (aC (eC .none) (aN))))))) (aN)))) (aC (eV 9) (aC (eC .none) (aN)))))
def m_legs_of_6 : SM := sIf (bB (e2 (eqV false) (e2 ixV (eV 9) (eC (.int 0))) (eC (.str "stop")))) (m_legs_of_7) (sNx)
def m_legs_of_8 : SM := sAsg (gSet 10) (fE (e2 modV (e2 addV (eV 5) (e2 ixV (eV 9) (eC (.int 1)))) (eV 4)))
def m_legs_of_10 : SM := sRet (eA mkTup (aC (e2 addV (eP 6) (eA mkLst (aC (eA mkTup (aC (eV 5) (aC (eV 3) (aC (eV 8) (aC (eC .none) (aC (e2 ixV (eV 9) (eC (.int 2))) (aN))))))) (aN)))) (aC (eA mkTup (aC (eC (.str "out")) (aC (e2 ixV (eV 9) (eC (.int 2))) (aN)))) (aC (eC .none) (aN)))))
def m_legs_of_9 : SM := sIf (bB (e2 (eqV false) (eV 10) (eC (.int 0)))) (m_legs_of_10) (sNx)
def m_legs_of_11 : SM := sApp 6 (eA mkTup (aC (eV 5) (aC (eV 3) (aC (eV 8) (aC (e2 subV (eV 10) (eC (.int 1))) (aC (e2 ixV (eV 9) (eC (.int 2))) (aN)))))))
def m_legs_of_12 : SM := sAsg (gSet 11) (fE (e2 ixV (e2 ixV (eV 2) (e2 subV (eV 10) (eC (.int 1)))) (e2 ixV (eV 9) (eC (.int 2)))))
def m_legs_of_14 : SM := sRet (eA mkTup (aC (eV 6) (aC (eV 11) (aC (eC .none) (aN)))))
def m_legs_of_13 : SM := sIf (bB (e2 (eqV true) (e2 ixV (eV 11) (eC (.int 0))) (eC (.str "out")))) (m_legs_of_14) (sNx)
def m_legs_of_15 : SM := sPar [5, 3] 12 (aC (eV 10) (aC (e2 ixV (eV 11) (eC (.int 1))) (aN)))
def m_legs_of_2 : SM := sWhile (bB (e2 (inDV true) (eA mkTup (aC (eV 5) (aC (eV 3) (aN)))) (eD 7))) (sSeq m_legs_of_3 (sSeq m_legs_of_4 (sSeq m_legs_of_5 (sSeq m_legs_of_6 (sSeq m_legs_of_8 (sSeq m_legs_of_9 (sSeq m_legs_of_11 (sSeq m_legs_of_12 (sSeq m_legs_of_13 m_legs_of_15)))))))))
def m_legs_of_16 : SM := sRet (eA mkTup (aC (eV 6) (aC (eA mkTup (aC (eC (.str "ever")) (aN))) (aC (e2 ixDV (eD 7) (eA mkTup (aC (eV 5) (aC (eV 3) (aN))))) (aN)))))
def m_legs_of : SM := sSeq m_legs_of_1 (sSeq m_legs_of_2 m_legs_of_16)
theorem m_legs_of_1_E {fr : Fr} {S : Store} : m_legs_of_1 fr S = (sPar [4, 5, 6, 7] 12 (aC (e2 addV (eC (.int 1)) (eA1 lenV (eV 2))) (aC (eC (.int 0)) (aC (eA mkLst (aN)) (aC (eC (.dict [])) (aN)))))) fr S := rfl
theorem m_legs_of_3_E {fr : Fr} {S : Store} : m_legs_of_3 fr S = (sPutD 7 (eA1 lenV (eP 6)) (eA mkTup (aC (eV 5) (aC (eV 3) (aN))))) fr S := rfl
theorem m_legs_of_4_E {fr : Fr} {S : Store} : m_legs_of_4 fr S = (sAsg (gSet 8) (fE (eCall 4 F_rule_for (aC (eV 0) (aC (eV 3) (aC (eV 1) (aC (eV 4) (aN)))))))) fr S := rfl
theorem m_legs_of_5_E {fr : Fr} {S : Store} : m_legs_of_5 fr S = (sAsg (gSet 9) (fE (eCall 3 F_deed_by (aC (eV 0) (aC (eV 3) (aC (eV 8) (aN))))))) fr S := rfl
theorem m_legs_of_7_E {fr : Fr} {S : Store} : m_legs_of_7 fr S = (sRet (eA mkTup (aC (e2 addV (eP 6) (eA mkLst (aC (eA mkTup (aC (eV 5) (aC (eV 3) (aC (eV 8) (aC (eC .none) (aC (eC .none) (aN))))))) (aN)))) (aC (eV 9) (aC (eC .none) (aN)))))) fr S := rfl
theorem m_legs_of_6_E {fr : Fr} {S : Store} : m_legs_of_6 fr S = (sIf (bB (e2 (eqV false) (e2 ixV (eV 9) (eC (.int 0))) (eC (.str "stop")))) (m_legs_of_7) (sNx)) fr S := rfl
theorem m_legs_of_8_E {fr : Fr} {S : Store} : m_legs_of_8 fr S = (sAsg (gSet 10) (fE (e2 modV (e2 addV (eV 5) (e2 ixV (eV 9) (eC (.int 1)))) (eV 4)))) fr S := rfl
theorem m_legs_of_10_E {fr : Fr} {S : Store} : m_legs_of_10 fr S = (sRet (eA mkTup (aC (e2 addV (eP 6) (eA mkLst (aC (eA mkTup (aC (eV 5) (aC (eV 3) (aC (eV 8) (aC (eC .none) (aC (e2 ixV (eV 9) (eC (.int 2))) (aN))))))) (aN)))) (aC (eA mkTup (aC (eC (.str "out")) (aC (e2 ixV (eV 9) (eC (.int 2))) (aN)))) (aC (eC .none) (aN)))))) fr S := rfl
theorem m_legs_of_9_E {fr : Fr} {S : Store} : m_legs_of_9 fr S = (sIf (bB (e2 (eqV false) (eV 10) (eC (.int 0)))) (m_legs_of_10) (sNx)) fr S := rfl
theorem m_legs_of_11_E {fr : Fr} {S : Store} : m_legs_of_11 fr S = (sApp 6 (eA mkTup (aC (eV 5) (aC (eV 3) (aC (eV 8) (aC (e2 subV (eV 10) (eC (.int 1))) (aC (e2 ixV (eV 9) (eC (.int 2))) (aN)))))))) fr S := rfl
theorem m_legs_of_12_E {fr : Fr} {S : Store} : m_legs_of_12 fr S = (sAsg (gSet 11) (fE (e2 ixV (e2 ixV (eV 2) (e2 subV (eV 10) (eC (.int 1)))) (e2 ixV (eV 9) (eC (.int 2)))))) fr S := rfl
theorem m_legs_of_14_E {fr : Fr} {S : Store} : m_legs_of_14 fr S = (sRet (eA mkTup (aC (eV 6) (aC (eV 11) (aC (eC .none) (aN)))))) fr S := rfl
theorem m_legs_of_13_E {fr : Fr} {S : Store} : m_legs_of_13 fr S = (sIf (bB (e2 (eqV true) (e2 ixV (eV 11) (eC (.int 0))) (eC (.str "out")))) (m_legs_of_14) (sNx)) fr S := rfl
theorem m_legs_of_15_E {fr : Fr} {S : Store} : m_legs_of_15 fr S = (sPar [5, 3] 12 (aC (eV 10) (aC (e2 ixV (eV 11) (eC (.int 1))) (aN)))) fr S := rfl
theorem m_legs_of_2_E {fr : Fr} {S : Store} : m_legs_of_2 fr S = (sWhile (bB (e2 (inDV true) (eA mkTup (aC (eV 5) (aC (eV 3) (aN)))) (eD 7))) (sSeq m_legs_of_3 (sSeq m_legs_of_4 (sSeq m_legs_of_5 (sSeq m_legs_of_6 (sSeq m_legs_of_8 (sSeq m_legs_of_9 (sSeq m_legs_of_11 (sSeq m_legs_of_12 (sSeq m_legs_of_13 m_legs_of_15)))))))))) fr S := rfl
theorem m_legs_of_16_E {fr : Fr} {S : Store} : m_legs_of_16 fr S = (sRet (eA mkTup (aC (eV 6) (aC (eA mkTup (aC (eC (.str "ever")) (aN))) (aC (e2 ixDV (eD 7) (eA mkTup (aC (eV 5) (aC (eV 3) (aN))))) (aN)))))) fr S := rfl
theorem m_legs_of_E {fr : Fr} {S : Store} : m_legs_of fr S = (sSeq m_legs_of_1 (sSeq m_legs_of_2 m_legs_of_16)) fr S := rfl
def F_legs_of : FN := bodyF 12 m_legs_of
def m_room_results_1 : SM := sRet (eA1 tupleV (eLc (iA rng1V (aC (eA1 lenV (eV 0)) (aN))) (gSet 3) (bYes) (e2 ixV (eCall 4 F_legs_of (aC (eV 0) (aC (eV 1) (aC (eV 2) (aC (eV 3) (aN)))))) (eC (.int 1))) [3]))
def m_room_results : SM := m_room_results_1
theorem m_room_results_1_E {fr : Fr} {S : Store} : m_room_results_1 fr S = (sRet (eA1 tupleV (eLc (iA rng1V (aC (eA1 lenV (eV 0)) (aN))) (gSet 3) (bYes) (e2 ixV (eCall 4 F_legs_of (aC (eV 0) (aC (eV 1) (aC (eV 2) (aC (eV 3) (aN)))))) (eC (.int 1))) [3]))) fr S := rfl
theorem m_room_results_E {fr : Fr} {S : Store} : m_room_results fr S = (m_room_results_1) fr S := rfl
def F_room_results : FN := bodyF 4 m_room_results
local macro_rules
  | `(tactic| walk_at "go") => `(tactic| simp only [sSeq, ssat_next, ssat_toS, ssat_nx, ssat_rt, ssat_bk, ssat_ct, ssat_bad, ssat_ite, if_false_right, sat_ok, sat_bad, sat_exc, sat_bind, sat_ite, sPutO, sPutI, sPutD, eD, ownD, sAsg, fE, sIf, sNx, sRet, sDrop, sOwn, sApp, sExt, sPar, sFor, e1, e2, eV, eC, eA, eA1, aC, aN, eSl, oN, oS, eP, eM1, eIf, eCall, eChain, eJ, jC, jN, bB, bTr, bAnd, bOr, bNot, eAnd, eOr, eNot, bYes, iSeq, iA, ofG, ofO, fmtV, strV, tupleV, listV, iaddV, PD.eq_int, PD.eq_str, eq_self, gSet, ggNil, ggCons, ggTup, mkTup, mkLst, mkObj, asDs, asD, ownL,
      List.map_cons, List.map_nil, List.cons_append, List.nil_append, List.length_cons, List.length_nil, List.length_set, List.replicate, List.getElem?_cons_succ, List.getElem?_cons_zero, List.getElem?_nil, List.set_cons_succ, List.set_cons_zero, List.all_cons, List.all_nil, setAll, Option.map_some, Option.map_none, Option.bind_some, Option.bind_none,
      ixV, addV, subV, mulV, modV, divV, powV, negV, lenV, intV, absI, enumV, iterV, PD.slV, boolV, truthV, ltD, revA, ltV, gtV, leV, geV, isV, isNone, L2.atI, ixN, Bool.false_xor, Bool.true_xor, Bool.not_true, Bool.not_false, Bool.and_true, Bool.true_and, Bool.and_false, Bool.false_and, decide_true, decide_false, decide_eq_true_eq, Bool.and_eq_true, if_true, if_false, reduceIte, Bool.false_eq_true, Str.empty_append, List.length_append, ite_true, ite_false, true_and, and_true, Int.cast_ofNat_Int, Nat.reduceAdd, Nat.reduceSub, Nat.reduceLT, Int.reduceLT, Int.reduceLE, Int.reduceToNat, Nat.lt_add_one])
local macro_rules
  | `(tactic| walk_at "g0") => `(tactic| simp only [sSeq, ssat_next, ssat_toS, ssat_nx, ssat_rt, ssat_bk, ssat_ct, ssat_bad, ssat_ite, if_false_right, sat_ok, sat_bad, sat_exc, sat_bind, sat_ite, sPutO, sPutI, sPutD, eD, ownD, sAsg, fE, sIf, sNx, sRet, sDrop, sOwn, sApp, sExt, sPar, sFor, e1, e2, eV, eC, eA, eA1, aC, aN, eSl, oN, oS, eP, eM1, eIf, eCall, eChain, eJ, jC, jN, bB, bTr, bAnd, bOr, bNot, eAnd, eOr, eNot, bYes, iSeq, iA, ofG, ofO, fmtV, strV, tupleV, listV, iaddV, PD.eq_int, PD.eq_str, eq_self, gSet, ggNil, ggCons, ggTup, mkTup, mkLst, mkObj, asDs, asD, ownL,
      List.map_cons, List.map_nil, List.cons_append, List.nil_append, List.length_cons, List.length_nil, List.length_set, List.replicate, List.getElem?_cons_succ, List.getElem?_cons_zero, List.getElem?_nil, List.set_cons_succ, List.set_cons_zero, List.all_cons, List.all_nil, setAll, ixT0, ixT1, ixT2, ixL0, ixL1, ixL2, Option.map_some, Option.map_none, Option.bind_some, Option.bind_none,
      addV, subV, mulV, modV, divV, powV, negV, lenV, intV, absI, enumV, iterV, PD.slV, boolV, truthV, ltD, revA, ltV, gtV, leV, geV, isV, isNone, Bool.false_xor, Bool.true_xor, Bool.not_true, Bool.not_false, Bool.and_true, Bool.true_and, Bool.and_false, Bool.false_and, decide_true, decide_false, decide_eq_true_eq, Bool.and_eq_true, if_true, if_false, reduceIte, Bool.false_eq_true, Str.empty_append, List.length_append, ite_true, ite_false, true_and, and_true, Int.cast_ofNat_Int, Nat.reduceAdd, Nat.reduceSub, Nat.reduceLT, Int.reduceLT, Int.reduceLE, Int.reduceToNat, Nat.lt_add_one])
local macro_rules
  | `(tactic| walk_at "g1") => `(tactic| simp only [sSeq, ssat_next, ssat_toS, ssat_nx, ssat_rt, ssat_bk, ssat_ct, ssat_bad, ssat_ite, if_false_right, sat_ok, sat_bad, sat_exc, sat_bind, sat_ite, sPutO, sPutI, sPutD, eD, ownD, sAsg, fE, sIf, sNx, sRet, sDrop, sOwn, sApp, sExt, sPar, sFor, e1, e2, eV, eC, eA, eA1, aC, aN, eSl, oN, oS, eP, eM1, eIf, eCall, eChain, eJ, jC, jN, bB, bTr, bAnd, bOr, bNot, eAnd, eOr, eNot, bYes, iSeq, iA, ofG, ofO, fmtV, strV, tupleV, listV, iaddV, PD.eq_int, PD.eq_str, eq_self, gSet, ggNil, ggCons, ggTup, mkTup, mkLst, mkObj, asDs, asD, ownL,
      List.map_cons, List.map_nil, List.cons_append, List.nil_append, List.length_cons, List.length_nil, List.length_set, List.replicate, List.getElem?_cons_succ, List.getElem?_cons_zero, List.getElem?_nil, List.set_cons_succ, List.set_cons_zero, List.all_cons, List.all_nil, setAll, ixT0, ixT1, ixT2, ixL0, ixL1, ixL2, Option.map_some, Option.map_none, Option.bind_some, Option.bind_none,
      addV, subV, mulV, modV, divV, powV, negV, lenV, intV, absI, enumV, iterV, PD.slV, boolV, truthV, ltD, revA, ltV, gtV, leV, geV, isV, isNone, Bool.false_xor, Bool.true_xor, Bool.not_true, Bool.not_false, Bool.and_true, Bool.true_and, Bool.and_false, Bool.false_and, decide_true, decide_false, decide_eq_true_eq, Bool.and_eq_true, if_true, if_false, reduceIte, Bool.false_eq_true, Str.empty_append, List.length_append, ite_true, ite_false, true_and, and_true, Int.cast_ofNat_Int, Nat.reduceAdd, Nat.reduceSub, Nat.reduceLT, Int.reduceLT, Int.reduceSub, Int.reduceAdd, Int.reduceNeg, Int.reduceLE, Int.reduceToNat, Nat.lt_add_one])
local macro_rules
  | `(tactic| walk_at "g") => `(tactic| simp only [sSeq, ssat_next, ssat_toS, ssat_nx, ssat_rt, ssat_bk, ssat_ct, ssat_bad, ssat_ite, if_false_right, sat_ok, sat_bad, sat_exc, sat_bind, sat_ite, sPutO, sPutI, sPutD, eD, ownD, sAsg, fE, sIf, sNx, sRet, sDrop, sOwn, sApp, sExt, sPar, sFor, e1, e2, eV, eC, eA, eA1, aC, aN, eSl, oN, oS, eP, eM1, eIf, eCall, eChain, eJ, jC, jN, bB, bTr, bAnd, bOr, bNot, eAnd, eOr, eNot, bYes, iSeq, iA, ofG, ofO, fmtV, strV, tupleV, listV, iaddV, PD.eq_int, PD.eq_str, eq_self, gSet, ggNil, ggCons, ggTup, mkTup, mkLst, mkObj, asDs, asD, ownL,
      List.map_cons, List.map_nil, List.cons_append, List.nil_append, List.length_cons, List.length_nil, List.length_set, List.replicate, List.getElem?_cons_succ, List.getElem?_cons_zero, List.getElem?_nil, List.set_cons_succ, List.set_cons_zero, List.all_cons, List.all_nil, setAll, ixT0, ixT1, ixT2, ixL0, ixL1, ixL2, Option.map_some, Option.map_none, Option.bind_some, Option.bind_none,
      addV, subV, mulV, modV, divV, powV, negV, lenV, intV, absI, enumV, iterV, PD.slV, boolV, truthV, ltD, revA, ltV, gtV, leV, geV, isV, isNone, Bool.false_xor, Bool.true_xor, Bool.not_true, Bool.not_false, Bool.and_true, Bool.true_and, Bool.and_false, Bool.false_and, decide_true, decide_false, decide_eq_true_eq, Bool.and_eq_true, if_true, if_false, reduceIte, Bool.false_eq_true, Str.empty_append, List.length_append, ite_true, ite_false, true_and, and_true, Int.cast_ofNat_Int, Nat.reduceAdd, Nat.reduceSub, Nat.reduceLT, Int.reduceLT, Int.reduceSub, Int.reduceAdd, Int.reduceNeg, Int.reduceLE, Int.reduceToNat, Nat.lt_add_one, beq_iff_eq, sizeLine_eq, Nat.reduceLeDiff, inV_tup, inV_lst, eqv_str, eqv_int, eqV_nilT, cutD_tail, false_and, and_false, or_true, true_or, or_false, false_or, ixT3, Bool.true_eq_false, Bool.or_eq_false_iff, decide_eq_false_iff_not, Int.not_le, Int.not_lt, beq_self_eq_true, Int.reduceBEq, Bool.not_eq_eq_eq_not, beq_eq_false_iff_ne, ne_eq, not_true_eq_false, not_false_eq_true, List.isEmpty_cons, List.isEmpty_nil, List.any_cons, List.any_nil, Bool.or_false, Bool.or_eq_true, isaV, PyData.isInt, PyData.isStr, PyData.isBool, PyData.isTuple, PyData.isList, PyData.isDict, m_rule_for_3_E, m_rule_for_2_E, m_rule_for_1_E, m_rule_for_4_E, m_rule_for_E, m_deed_by_1_E, m_deed_by_E, m_legs_of_1_E, m_legs_of_3_E, m_legs_of_4_E, m_legs_of_5_E, m_legs_of_7_E, m_legs_of_6_E, m_legs_of_8_E, m_legs_of_10_E, m_legs_of_9_E, m_legs_of_11_E, m_legs_of_12_E, m_legs_of_14_E, m_legs_of_13_E, m_legs_of_15_E, m_legs_of_2_E, m_legs_of_16_E, m_legs_of_E, m_room_results_1_E, m_room_results_E])
local macro_rules
  | `(tactic| walk_at "gt") => `(tactic| try walk_at "go")
local macro_rules
  | `(tactic| walk_at "gq") => `(tactic| try walk_at "g0")
local macro_rules
  | `(tactic| walk_at "len") => `(tactic| (simp only [Str.length_append, PySem.ofString_length, len_nil, sizeLine_eq] at *; omega))
local macro_rules
  | `(tactic| walk_at "fin") => `(tactic| ((repeat' apply And.intro) <;> first | assumption | exact True.intro | walk_at "len" | rfl))
local macro_rules
  | `(tactic| walk_at "start") => `(tactic| (rw [sat_body]; simp only [List.map_cons, List.map_nil, List.cons_append, List.nil_append, List.length_cons, List.length_nil, Nat.reduceAdd, Nat.reduceSub, List.replicate]))
local macro_rules
  | `(tactic| walk_at "wd") => `(tactic| first | assumption | exact Wd.none | exact Wd.bool | exact Wd.small (by decide) (by decide) | exact Wd.lit (by decide) | exact Wd.dict0 | exact Wd.tup Wds.nil | exact Wd.lst Wds.nil | (refine Wd.t1 (k := 2) (a := 990) ?_ (by decide) <;> walk_at "wd") | (refine Wd.t2 (k := 2) (a := 990) (b := 990) ?_ ?_ (by decide) <;> walk_at "wd") | (refine Wd.t3 (k := 2) (a := 990) (b := 990) (c := 990) ?_ ?_ ?_ (by decide) <;> walk_at "wd") | (refine Wd.t4 (k := 2) (a := 990) (b := 990) (c := 990) (e := 990) ?_ ?_ ?_ ?_ (by decide) <;> walk_at "wd") | (refine Wd.t1 (k := 1) (a := 240) ?_ (by decide) <;> walk_at "wd") | (refine Wd.t2 (k := 1) (a := 240) (b := 240) ?_ ?_ (by decide) <;> walk_at "wd") | (refine Wd.t3 (k := 1) (a := 240) (b := 240) (c := 240) ?_ ?_ ?_ (by decide) <;> walk_at "wd") | (refine Wd.t4 (k := 1) (a := 240) (b := 240) (c := 240) (e := 240) ?_ ?_ ?_ ?_ (by decide) <;> walk_at "wd") | (refine Wd.t1 (k := 0) (a := 55) ?_ (by decide) <;> walk_at "wd") | (refine Wd.t2 (k := 0) (a := 55) (b := 55) ?_ ?_ (by decide) <;> walk_at "wd") | (refine Wd.t3 (k := 0) (a := 55) (b := 55) (c := 55) ?_ ?_ ?_ (by decide) <;> walk_at "wd") | (refine Wd.t4 (k := 0) (a := 55) (b := 55) (c := 55) (e := 55) ?_ ?_ ?_ ?_ (by decide) <;> walk_at "wd"))
theorem in_sign {a : Option Str} {s : Str} {S : Store} (h : ∀ t, a = some t → Tx 20 t) (k : Tx 20 s) : inV false (.d (optS a)) (.d (.tuple [.none, .str s])) S = .ok (.d (.bool (fitS a s))) S := by
  have e : inOk (optS a) [.none, .str s] = true := by
    have e1 : (optS a).canLay0 = true ∧ (optS a).depth = 0 := by
      cases a with
      | none => exact ⟨rfl, rfl⟩
      | some t => exact ⟨(h t rfl).strOk, rfl⟩
    simp only [inOk, PyData.canLayAll0, k.strOk, e1.1, e1.2, show PyData.canLay0 .none = true from rfl, Bool.and_self, Bool.true_and, decide_eq_true_eq]
    omega
  have e2 : inV false (.d (optS a)) (.d (.tuple [.none, .str s])) S = if inOk (optS a) [.none, .str s] = true then Rs.ok (SV.d (.bool (false ^^ [PyData.none, .str s].any fun y => PyData.eqv y (optS a)))) S else .bad := by
    cases a <;> rfl
  rw [e2, if_pos e]
  cases a with
  | none => rfl
  | some t =>
    have : ([PyData.none, .str s].any fun y => PyData.eqv y (.str t)) = decide (t = s) := by
      simp only [List.any_cons, List.any_nil, PyData.eqv, Bool.false_or, Bool.or_false]
      by_cases q : t = s
      · simp [q]
      · simp [q, Ne.symm q]
    show Rs.ok (SV.d (.bool (false ^^ [PyData.none, .str s].any fun y => PyData.eqv y (.str t)))) S = _
    rw [this, Bool.false_xor]
    rfl
theorem in_doors {b : Option Int} {q : Int} {S : Store} : inV false (.d (optI b)) (.d (.tuple [.none, .int q])) S = .ok (.d (.bool (fitD b q))) S := by
  have e : inOk (optI b) [.none, .int q] = true := by cases b <;> rfl
  have e2 : inV false (.d (optI b)) (.d (.tuple [.none, .int q])) S = if inOk (optI b) [.none, .int q] = true then Rs.ok (SV.d (.bool (false ^^ [PyData.none, .int q].any fun y => PyData.eqv y (optI b)))) S else .bad := by
    cases b <;> rfl
  rw [e2, if_pos e]
  cases b with
  | none => rfl
  | some k =>
    have : ([PyData.none, .int q].any fun y => PyData.eqv y (.int k)) = decide (k = q) := by
      simp only [List.any_cons, List.any_nil, PyData.eqv, Bool.false_or, Bool.or_false]
      by_cases z : k = q
      · simp [z]
      · simp [z, Ne.symm z]
    show Rs.ok (SV.d (.bool (false ^^ [PyData.none, .int q].any fun y => PyData.eqv y (.int k)))) S = _
    rw [this, Bool.false_xor]
    rfl
theorem rule_for_eq {R : Rob} {st : Int} {s : Str} {q : Int} {S : Store} (h : RobWf R) (h0 : 0 ≤ st) (h1 : st < R.length) (hs : Tx 20 s) : F_rule_for [.d (robD R), .d (.int st), .d (.str s), .d (.int q)] S = .ok (.d (optN (ruleOf (R.getD st.toNat []) s q))) S := by
  refine sat_eq ?_
  have hm : R.getD st.toNat [] ∈ R := getD_mem (by omega)
  have ix : ∀ S, ixV (.d (robD R)) (.d (.int st)) S = .ok (.d (.tuple ((R.getD st.toNat []).map Rl.d))) S := fun S => ix_mapT (enc := stD) h0 h1
  have hw := (h.st _ hm).2
  generalize R.getD st.toNat [] = rs at ix hw
  unfold F_rule_for
  walk_at "start"
  unfold m_rule_for
  refine seq_sat (fun fr S' => S' = S ∧ ∀ r ∈ rs, r.fits s q = false) ?_ ?_
  · simp only [m_rule_for_1]
    walk_at "g0"
    rw [ix]
    walk_at "g0"
    refine ssat_for (fun j fr S' => S' = S ∧ (∃ x y, fr = [some (.d (robD R)), some (.d (.int st)), some (.d (.str s)), some (.d (.int q)), x, y]) ∧ ∀ i (_ : i < rs.length), i < j → rs[i].fits s q = false) 0 ⟨rfl, ⟨_, _, rfl⟩, by simp⟩ (fun j x fr S' e ⟨e1, ⟨y, z, e2⟩, n⟩ => ?_) fun fr S' ⟨e1, _, n⟩ => ⟨e1, fun r hr => ?_⟩
    · subst e1 e2
      rw [Nat.zero_add] at n ⊢
      obtain ⟨d, hd, rfl⟩ := enumL_get e
      rw [List.getElem?_map] at hd
      obtain ⟨r, hr, rfl⟩ := Option.map_eq_some_iff.mp hd
      obtain ⟨hl, er⟩ := List.getElem?_eq_some_iff.mp hr
      have wr := hw r (List.mem_of_getElem? hr)
      refine ⟨[some (.d (robD R)), some (.d (.int st)), some (.d (.str s)), some (.d (.int q)), some (.d (.int (j : Nat))), some (.d r.d)], rfl, ?_⟩
      simp only [m_rule_for_2, Rl.d]
      walk_at "g0"
      rw [in_sign wr.sg hs]
      walk_at "g0"
      refine ⟨by decide, ?_⟩
      have next : r.fits s q = false → ∀ i (_ : i < rs.length), i < j + 1 → rs[i].fits s q = false := fun f i hi hj => by
        rcases Nat.lt_succ_iff_lt_or_eq.mp hj with l | rfl
        · exact n i hi l
        · rw [er]; exact f
      by_cases f1 : fitS r.sg s = true
      · rw [if_pos f1]
        rw [in_doors]
        walk_at "g0"
        refine ⟨by decide, ?_⟩
        by_cases f2 : fitD r.dr q = true
        · rw [if_pos f2]
          simp only [m_rule_for_3]
          walk_at "g0"
          have : ruleOf rs s q = some j := by
            unfold ruleOf
            refine List.findIdx?_eq_some_iff_getElem.mpr ⟨hl, ?_, fun i hi => ?_⟩
            · rw [er]
              show (_ && _) = true
              rw [f1, f2]
              rfl
            · rw [n i (by omega) hi]; simp
          rw [this]
          rfl
        · rw [if_neg f2]
          refine ⟨⟨_, _, rfl⟩, next ?_⟩
          show (_ && _) = false
          rw [Bool.eq_false_iff.mpr f2, Bool.and_false]
      · rw [if_neg f1]
        refine ⟨⟨_, _, rfl⟩, next ?_⟩
        show (_ && _) = false
        rw [Bool.eq_false_iff.mpr f1, Bool.false_and]
    · obtain ⟨i, hi, rfl⟩ := List.mem_iff_getElem.mp hr
      refine n i hi ?_
      rw [Nat.zero_add, enumL_length, List.length_map]
      exact hi
  rintro _ S ⟨rfl, n⟩
  simp only [m_rule_for_4]
  walk_at "g0"
  have : ruleOf rs s q = none := List.findIdx?_eq_none_iff.mpr n
  rw [this]
  rfl
theorem deed_by_eq {R : Rob} {st : Int} {S : Store} (h : RobWf R) (h0 : 0 ≤ st) (h1 : st < R.length) {o : Option Nat} (ho : ∀ i, o = some i → i < (R.getD st.toNat []).length) : F_deed_by [.d (robD R), .d (.int st), .d (optN o)] S = .ok (.d (deedOf (R.getD st.toNat []) o).d) S := by
  refine sat_eq ?_
  have ix : ∀ S, ixV (.d (robD R)) (.d (.int st)) S = .ok (.d (.tuple ((R.getD st.toNat []).map Rl.d))) S := fun S => ix_mapT (enc := stD) h0 h1
  generalize R.getD st.toNat [] = rs at ix ho
  unfold F_deed_by
  walk_at "start"
  simp only [m_deed_by, m_deed_by_1]
  cases o with
  | none =>
    simp only [optN]
    walk_at "g0"
    simp only [deedOf, Deed.d]
    exact ⟨by decide, trivial⟩
  | some i =>
    simp only [optN]
    walk_at "g0"
    rw [ix]
    walk_at "g0"
    rw [ix_mapT (enc := Rl.d) (by omega) (by have := ho i rfl; omega)]
    walk_at "g0"
    simp only [Rl.d, deedOf]
    walk_at "g0"
    rw [Int.toNat_natCast]
theorem ruleOf_lt {rs : List Rl} {s : Str} {q : Int} : ∀ i, ruleOf rs s q = some i → i < rs.length := fun i e => (List.findIdx?_eq_some_iff_getElem.mp e).1
def seenD (xs : List (Int × Int)) : List ((Int × Int) × PyData) := xs.zipIdx.map fun p => (p.1, PyData.int (p.2 : Nat))
theorem seenD_snoc (xs : List (Int × Int)) (x : Int × Int) : seenD (xs ++ [x]) = seenD xs ++ [(x, .int (xs.length : Nat))] := by
  unfold seenD
  rw [List.zipIdx_append, List.map_append]
  simp
theorem seenD_keys (xs : List (Int × Int)) : (seenD xs).map (·.1) = xs := by
  unfold seenD
  rw [List.map_map]
  exact List.zipIdx_map_fst 0 xs
theorem seenD_find {x : Int × Int} : ∀ {xs : List (Int × Int)} (k : Nat), x ∈ xs → (((xs.zipIdx k).map fun p => (p.1, PyData.int (p.2 : Nat))).find? fun y => decide (y.1 = x)).map (·.2) = some (.int ((k + xs.idxOf x : Nat)))
  | [], _, h => by cases h
  | a :: xs, k, h => by
    rw [List.zipIdx_cons, List.map_cons, List.find?_cons]
    by_cases q : a = x
    · subst q
      simp
    · rw [show decide ((a, PyData.int (k : Nat)).1 = x) = false by simp [q]]
      have hm : x ∈ xs := by
        rcases List.mem_cons.mp h with e | e
        · exact absurd e.symm q
        · exact e
      rw [show (a :: xs).idxOf x = xs.idxOf x + 1 by
        rw [List.idxOf_cons, show (a == x) = false from beq_eq_false_iff_ne.mpr q]
        rfl]
      have := seenD_find (k + 1) hm
      rw [show k + 1 + xs.idxOf x = k + (xs.idxOf x + 1) by omega] at this
      exact this
def legsD (t : List Leg × Res × Option Nat) : PyData := .tuple [.list (t.1.map Leg.d), t.2.1.d, optN t.2.2]
theorem ne_go : (("go" : Str) = "stop") = False := eq_false (by decide +kernel)
theorem ne_out1 : (("ever" : Str) = "out") = False := eq_false (by decide +kernel)
theorem ne_out2 : (("stop" : Str) = "out") = False := eq_false (by decide +kernel)
theorem legs_of_eq {R : Rob} {s : Str} {G : List (List Res)} {st : Int} {S : Store} (h : RobWf R) (g : GWf R.length G) (hs : Tx 20 s) (h0 : 0 ≤ st) (h1 : st < R.length) :
    F_legs_of [.d (robD R), .d (.str s), .d (.tuple (G.map resD)), .d (.int st)] S = .ok (.d (legsD (legs R s G st))) S := by
  refine sat_eq ?_
  have sz : sizeLine = 16777216 := sizeLine_eq
  have gf := g.few
  have rf := h.few
  have hN : (1 + G.length) * R.length ≤ 300 := by
    have := Nat.mul_le_mul (show 1 + G.length ≤ 3 by omega) rf
    omega
  unfold F_legs_of
  walk_at "start"
  simp only [m_legs_of, m_legs_of_1]
  walk_at "g0"
  rw [List.length_map]
  refine ⟨by decide, ?_⟩
  refine ssat_mid (fun fr S' => S' = S ∧ ∃ seen ls door st' x8 x9 x10 x11, fr = [some (.d (robD R)), some (.d (.str s)), some (.d (.tuple (G.map resD))), some (.d (.int st')), some (.d (.int (1 + (G.length : Nat)))), some (.d (.int door)), some (.d (.list (ls.map Leg.d))), some (.d (.dict (dmap k2 (seenD seen)))), x8, x9, x10, x11] ∧ (door, st') ∈ seen ∧ legs R s G st = (ls, .ever, some (seen.idxOf (door, st')))) ?_ ?_
  · simp only [m_legs_of_2, sWhile]
    refine ssat_while (fun k fr S' => S' = S ∧ ∃ seen ls door st' x8 x9 x10 x11, fr = [some (.d (robD R)), some (.d (.str s)), some (.d (.tuple (G.map resD))), some (.d (.int st')), some (.d (.int (1 + (G.length : Nat)))), some (.d (.int door)), some (.d (.list (ls.map Leg.d))), some (.d (.dict (dmap k2 (seenD seen)))), x8, x9, x10, x11] ∧
      run R s G k seen ls (door, st') = legs R s G st ∧ k + seen.length = (1 + G.length) * R.length + 1 ∧ seen.Nodup ∧ (∀ x ∈ seen, 0 ≤ x.1 ∧ x.1 < ((1 + G.length : Nat) : Int) ∧ 0 ≤ x.2 ∧ x.2 < (R.length : Nat)) ∧ (0 ≤ door ∧ door < ((1 + G.length : Nat) : Int) ∧ 0 ≤ st' ∧ st' < (R.length : Nat)) ∧ ls.length = seen.length)
      (fun k fr S' ⟨e1, seen, ls, door, st', x8, x9, x10, x11, e2, er, ek, nd, inr, hx, hl⟩ => ?_) ((1 + G.length) * R.length + 1) fuel (by unfold fuel; omega) ⟨rfl, [], [], 0, st, none, none, none, none, rfl, rfl, rfl, List.nodup_nil, by simp, ⟨by omega, by omega, h0, h1⟩, rfl⟩
    subst e1 e2
    have sl := nodup_pairs (D := 1 + G.length) (n := R.length) nd inr
    walk_at "g0"
    refine ⟨by decide, ?_⟩
    rw [show PyData.tuple [.int door, .int st'] = k2 (door, st') from rfl, in_dict k2_enc, seenD_keys]
    walk_at "g0"
    by_cases hm : (door, st') ∈ seen
    · simp only [eq_true hm]
      walk_at "g0"
      obtain ⟨k, rfl⟩ : ∃ j, k = j + 1 := ⟨k - 1, by omega⟩
      rw [PD.run, if_pos hm] at er
      exact ⟨seen, ls, door, st', x8, x9, x10, x11, rfl, hm, er.symm⟩
    · simp only [eq_false hm]
      walk_at "g0"
      obtain ⟨k, rfl⟩ : ∃ j, k = j + 1 := ⟨k - 1, by omega⟩
      rw [PD.run, if_neg hm] at er
      simp only [m_legs_of_3]
      walk_at "g0"
      rw [show PyData.tuple [.int door, .int st'] = k2 (door, st') from rfl]
      refine ⟨by decide, ⟨⟨k2_enc.key _, tupKeys_map k2_enc _⟩, ?_⟩, ?_⟩
      · unfold dmap seenD
        simp only [List.length_map, List.length_zipIdx]
        omega
      rw [dput_new k2_enc (fun y hy e => hm (by
        have : y.1 ∈ (seenD seen).map (·.1) := List.mem_map_of_mem hy
        rw [seenD_keys, e] at this
        exact this)), List.length_map, hl, ← seenD_snoc]
      simp only [m_legs_of_4]
      walk_at "g0"
      rw [rule_for_eq h hx.2.2.1 hx.2.2.2 hs]
      walk_at "g0"
      simp only [m_legs_of_5]
      walk_at "g0"
      rw [deed_by_eq h hx.2.2.1 hx.2.2.2 ruleOf_lt]
      walk_at "g0"
      have dw := deedOf_wf h hx.2.2.1 hx.2.2.2 s (1 + (G.length : Nat))
      have nd2 : (seen ++ [(door, st')]).Nodup := by
        rw [List.nodup_append]
        exact ⟨nd, by simp, fun a ha b hb e => by
          rw [List.mem_singleton] at hb
          subst hb e
          exact hm ha⟩
      simp only [m_legs_of_6]
      cases hd : deedOf (R.getD st'.toNat []) (ruleOf (R.getD st'.toNat []) s (1 + (G.length : Nat))) with
      | stop w =>
        have ls1 : legStep R s G (door, st') = (⟨door, st', ruleOf (R.getD st'.toNat []) s (1 + (G.length : Nat)), none, none⟩, .inl (.stop w)) := by
          unfold legStep
          simp only
          rw [hd]
        rw [ls1] at er
        simp only at er
        simp only [Deed.d]
        walk_at "g0"
        simp only [m_legs_of_7]
        walk_at "g0"
        refine ⟨by decide, by decide, by rw [List.length_map]; omega, by decide, ?_⟩
        rw [← er]
        simp only [legsD, List.map_append, List.map_cons, List.map_nil, Leg.d, optI, Res.d, optN]
      | go a b =>
        rw [hd] at dw
        obtain ⟨a0, a1, b0, b1⟩ := dw
        simp only [Deed.d]
        walk_at "g0"
        simp only [ne_go]
        walk_at "g0"
        simp only [m_legs_of_8]
        walk_at "g0"
        have p : (0 : Int) < 1 + (G.length : Nat) := by omega
        have m0 := Int.emod_nonneg (door + a) (show (1 : Int) + (G.length : Nat) ≠ 0 by omega)
        have m1 := Int.emod_lt_of_pos (door + a) p
        have d0 := hx.1
        have d1 := hx.2.1
        try refine ⟨by omega, ?_⟩
        simp only [m_legs_of_9]
        walk_at "g0"
        by_cases z : (door + a) % (1 + (G.length : Nat)) = 0
        · have ls1 : legStep R s G (door, st') = (⟨door, st', ruleOf (R.getD st'.toNat []) s (1 + (G.length : Nat)), none, some b⟩, .inl (.out b)) := by
            unfold legStep
            simp only
            rw [hd]
            simp only
            rw [if_pos z]
          rw [ls1] at er
          simp only at er
          simp only [z]
          walk_at "gq"
          simp only [beq_self_eq_true, if_true, m_legs_of_10]
          walk_at "gq"
          refine ⟨by decide, by decide, by rw [List.length_map]; omega, by decide, by decide, ?_⟩
          rw [← er]
          simp only [legsD, List.map_append, List.map_cons, List.map_nil, Leg.d, optI, Res.d, optN]
        · have zb : ((door + a) % (1 + (G.length : Nat)) == 0) = false := beq_eq_false_iff_ne.mpr z
          simp only [zb]
          walk_at "g0"
          simp only [m_legs_of_11]
          walk_at "g0"
          have gi : ((door + a) % (1 + (G.length : Nat)) - 1).toNat < G.length := by omega
          have gm : G.getD ((door + a) % (1 + (G.length : Nat)) - 1).toNat [] ∈ G := getD_mem gi
          have rl := g.len _ gm
          refine ⟨by decide, by rw [List.length_map]; omega, ?_⟩
          simp only [m_legs_of_12]
          walk_at "g0"
          rw [ix_mapT (enc := resD) (by omega) (by omega)]
          walk_at "g0"
          rw [show ∀ xs, resD xs = .tuple (xs.map Res.d) from fun _ => rfl, ix_mapT (enc := Res.d) b0 (by
            show b < ((G.getD ((door + a) % (1 + (G.length : Nat)) - 1).toNat []).length : Int)
            rw [rl]; exact b1)]
          walk_at "g0"
          simp only [m_legs_of_13]
          have en : ∀ rs : List Res, (ls.map Leg.d ++ [PyData.tuple [.int door, .int st', optN (ruleOf (R.getD st'.toNat []) s (1 + (G.length : Nat))), .int ((door + a) % (1 + (G.length : Nat)) - 1), .int b]]) = (ls ++ [(⟨door, st', ruleOf (R.getD st'.toNat []) s (1 + (G.length : Nat)), some ((door + a) % (1 + (G.length : Nat)) - 1), some b⟩ : Leg)]).map Leg.d := fun _ => by
            rw [List.map_append]; rfl
          cases e3 : (G.getD ((door + a) % (1 + (G.length : Nat)) - 1).toNat []).getD b.toNat default with
          | out k' =>
            have ls1 : legStep R s G (door, st') = (⟨door, st', ruleOf (R.getD st'.toNat []) s (1 + (G.length : Nat)), some ((door + a) % (1 + (G.length : Nat)) - 1), some b⟩, .inr ((door + a) % (1 + (G.length : Nat)), k')) := by
              unfold legStep
              simp only
              rw [hd]
              simp only
              rw [if_neg z, e3]
            have wf2 := (legStep_wf (s := s) h g hx).2 _ (by rw [ls1])
            rw [ls1] at er
            simp only at er
            simp only [Res.d]
            walk_at "g0"
            simp only [m_legs_of_15]
            walk_at "g0"
            rw [en []]
            refine ⟨k, by omega, seen ++ [(door, st')], ls ++ [⟨door, st', ruleOf (R.getD st'.toNat []) s (1 + (G.length : Nat)), some ((door + a) % (1 + (G.length : Nat)) - 1), some b⟩], (door + a) % (1 + (G.length : Nat)), k', _, _, _, _, rfl, er, ?_, nd2, ?_, wf2, ?_⟩
            · rw [List.length_append, List.length_cons, List.length_nil]; omega
            · intro x hxm
              rcases List.mem_append.mp hxm with q | q
              · exact inr x q
              · rw [List.mem_singleton.mp q]; exact hx
            · simp [hl]
          | ever =>
            have ls1 : legStep R s G (door, st') = (⟨door, st', ruleOf (R.getD st'.toNat []) s (1 + (G.length : Nat)), some ((door + a) % (1 + (G.length : Nat)) - 1), some b⟩, .inl .ever) := by
              unfold legStep
              simp only
              rw [hd]
              simp only
              rw [if_neg z, e3]
            rw [ls1] at er
            simp only at er
            simp only [Res.d]
            walk_at "g0"
            simp only [ne_out1]
            walk_at "g0"
            simp only [m_legs_of_14]
            walk_at "g0"
            refine ⟨by decide, ?_⟩
            rw [en [], ← er]
            rfl
          | stop w =>
            have ls1 : legStep R s G (door, st') = (⟨door, st', ruleOf (R.getD st'.toNat []) s (1 + (G.length : Nat)), some ((door + a) % (1 + (G.length : Nat)) - 1), some b⟩, .inl (.stop w)) := by
              unfold legStep
              simp only
              rw [hd]
              simp only
              rw [if_neg z, e3]
            rw [ls1] at er
            simp only at er
            simp only [Res.d]
            walk_at "g0"
            simp only [ne_out2]
            walk_at "g0"
            simp only [m_legs_of_14]
            walk_at "g0"
            refine ⟨by decide, ?_⟩
            rw [en [], ← er]
            rfl
  · rintro fr S' ⟨rfl, seen, ls, door, st', x8, x9, x10, x11, rfl, hm, et⟩
    simp only [m_legs_of_16]
    walk_at "g0"
    refine ⟨by decide, by decide, ?_⟩
    rw [show PyData.tuple [.int door, .int st'] = k2 (door, st') from rfl, ix_dict1 k2_enc (ys := seenD seen) (seenD_find 0 hm)]
    walk_at "g0"
    refine ⟨by decide, ?_⟩
    rw [et, Nat.zero_add]
    rfl
theorem rng_map (n : Nat) : rngL 0 (n : Nat) = ((List.range n).map fun i : Nat => PyData.int (i : Nat)).map .d := by
  unfold rngL
  rw [List.map_map]
  simp
theorem room_results_eq {R : Rob} {s : Str} {G : List (List Res)} {S : Store} (h : RobWf R) (g : GWf R.length G) (hs : Tx 20 s) :
    F_room_results [.d (robD R), .d (.str s), .d (.tuple (G.map resD))] S = .ok (.d (resD (roomR R s G))) S := by
  refine sat_eq ?_
  have sz : sizeLine = 16777216 := sizeLine_eq
  have rf := h.few
  unfold F_room_results
  walk_at "start"
  simp only [m_room_results, m_room_results_1]
  walk_at "g0"
  simp only [robD, eLc]
  walk_at "g0"
  rw [List.length_map, rng1_ok (by omega) (by omega)]
  walk_at "g0"
  rw [rng_map, comp_map (enc := fun i : Nat => PyData.int (i : Nat)) (f := fun i : Nat => ((legs R s G (i : Nat)).2.1).d) (fun i hi => ⟨_, rfl, by
    rw [List.mem_range] at hi
    refine sat_eq ?_
    simp only [wipeF]
    walk_at "g0"
    rw [show PyData.tuple (R.map stD) = robD R from rfl, legs_of_eq h g hs (by omega) (by omega)]
    walk_at "g0"
    simp only [legsD]
    walk_at "gq"⟩) (by simp; omega)]
  walk_at "gq"
  simp only [resD, roomR, List.map_map, List.nil_append]
  rfl
end Wk
namespace Wk
open PySem PySem.Spec PyProof.Rows L2 PD
def m_Course_inner_1 : SM := sRet (e2 ixV (e2 ixV (e2 ixV (eFld "Course" "plan" (eV 0)) (eV 1)) (eC (.int 1))) (e2 ixV (eV 2) (eC (.int 3))))
def m_Course_inner : SM := m_Course_inner_1
theorem m_Course_inner_1_E {fr : Fr} {S : Store} : m_Course_inner_1 fr S = (sRet (e2 ixV (e2 ixV (e2 ixV (eFld "Course" "plan" (eV 0)) (eV 1)) (eC (.int 1))) (e2 ixV (eV 2) (eC (.int 3))))) fr S := rfl
theorem m_Course_inner_E {fr : Fr} {S : Store} : m_Course_inner fr S = (m_Course_inner_1) fr S := rfl
def F_Course_inner : FN := bodyF 3 m_Course_inner
def m_Course_leg_steps_2 : SM := sRet (eIf (bB (e2 (isV false) (e2 ixV (eV 2) (eC (.int 4))) (eC .none))) (eC (.int 0)) (eC (.int 1)))
def m_Course_leg_steps_1 : SM := sIf (bB (e2 (isV false) (e2 ixV (eV 2) (eC (.int 3))) (eC .none))) (m_Course_leg_steps_2) (sNx)
def m_Course_leg_steps_3 : SM := sAsg (gSet 3) (fE (e2 ixV (e2 ixV (eFld "Course" "steps" (eV 0)) (eMeth "Course" "inner" 2 F_Course_inner (eV 0) (aC (eV 1) (aC (eV 2) (aN))))) (e2 ixV (eV 2) (eC (.int 4)))))
def m_Course_leg_steps_4 : SM := sRet (eIf (bB (e2 (isV false) (eV 3) (eC .none))) (eC .none) (e2 addV (eC (.int 1)) (eV 3)))
def m_Course_leg_steps : SM := sSeq m_Course_leg_steps_1 (sSeq m_Course_leg_steps_3 m_Course_leg_steps_4)
theorem m_Course_leg_steps_2_E {fr : Fr} {S : Store} : m_Course_leg_steps_2 fr S = (sRet (eIf (bB (e2 (isV false) (e2 ixV (eV 2) (eC (.int 4))) (eC .none))) (eC (.int 0)) (eC (.int 1)))) fr S := rfl
theorem m_Course_leg_steps_1_E {fr : Fr} {S : Store} : m_Course_leg_steps_1 fr S = (sIf (bB (e2 (isV false) (e2 ixV (eV 2) (eC (.int 3))) (eC .none))) (m_Course_leg_steps_2) (sNx)) fr S := rfl
theorem m_Course_leg_steps_3_E {fr : Fr} {S : Store} : m_Course_leg_steps_3 fr S = (sAsg (gSet 3) (fE (e2 ixV (e2 ixV (eFld "Course" "steps" (eV 0)) (eMeth "Course" "inner" 2 F_Course_inner (eV 0) (aC (eV 1) (aC (eV 2) (aN))))) (e2 ixV (eV 2) (eC (.int 4)))))) fr S := rfl
theorem m_Course_leg_steps_4_E {fr : Fr} {S : Store} : m_Course_leg_steps_4 fr S = (sRet (eIf (bB (e2 (isV false) (eV 3) (eC .none))) (eC .none) (e2 addV (eC (.int 1)) (eV 3)))) fr S := rfl
theorem m_Course_leg_steps_E {fr : Fr} {S : Store} : m_Course_leg_steps fr S = (sSeq m_Course_leg_steps_1 (sSeq m_Course_leg_steps_3 m_Course_leg_steps_4)) fr S := rfl
def F_Course_leg_steps : FN := bodyF 4 m_Course_leg_steps
def m_Course_steps_in_1 : SM := sAsg (ggTup 3 (ggCons (gSet 3) (ggCons (gSet 4) (ggCons (gSet 5) (ggNil))))) (fE (e2 ixV (e2 ixV (eFld "Course" "legs" (eV 0)) (eV 1)) (eV 2)))
def m_Course_steps_in_3 : SM := sRet (eC .none)
def m_Course_steps_in_2 : SM := sIf (bB (e2 (eqV false) (e2 ixV (eV 4) (eC (.int 0))) (eC (.str "ever")))) (m_Course_steps_in_3) (sNx)
def m_Course_steps_in_4 : SM := sRet (eA1 sumV (eLc (iSeq (eV 3)) (gSet 6) (bYes) (eMeth "Course" "leg_steps" 2 F_Course_leg_steps (eV 0) (aC (eV 1) (aC (eV 6) (aN)))) [6]))
def m_Course_steps_in : SM := sSeq m_Course_steps_in_1 (sSeq m_Course_steps_in_2 m_Course_steps_in_4)
theorem m_Course_steps_in_1_E {fr : Fr} {S : Store} : m_Course_steps_in_1 fr S = (sAsg (ggTup 3 (ggCons (gSet 3) (ggCons (gSet 4) (ggCons (gSet 5) (ggNil))))) (fE (e2 ixV (e2 ixV (eFld "Course" "legs" (eV 0)) (eV 1)) (eV 2)))) fr S := rfl
theorem m_Course_steps_in_3_E {fr : Fr} {S : Store} : m_Course_steps_in_3 fr S = (sRet (eC .none)) fr S := rfl
theorem m_Course_steps_in_2_E {fr : Fr} {S : Store} : m_Course_steps_in_2 fr S = (sIf (bB (e2 (eqV false) (e2 ixV (eV 4) (eC (.int 0))) (eC (.str "ever")))) (m_Course_steps_in_3) (sNx)) fr S := rfl
theorem m_Course_steps_in_4_E {fr : Fr} {S : Store} : m_Course_steps_in_4 fr S = (sRet (eA1 sumV (eLc (iSeq (eV 3)) (gSet 6) (bYes) (eMeth "Course" "leg_steps" 2 F_Course_leg_steps (eV 0) (aC (eV 1) (aC (eV 6) (aN)))) [6]))) fr S := rfl
theorem m_Course_steps_in_E {fr : Fr} {S : Store} : m_Course_steps_in fr S = (sSeq m_Course_steps_in_1 (sSeq m_Course_steps_in_2 m_Course_steps_in_4)) fr S := rfl
def F_Course_steps_in : FN := bodyF 7 m_Course_steps_in
def m_Course___init___1 : SM := sFldS "Course" "plan" (eV 1) (eV 0)
def m_Course___init___2 : SM := sFldS "Course" "results" (eA mkObj (aN)) (eV 0)
def m_Course___init___3 : SM := sFldS "Course" "legs" (eA mkObj (aN)) (eV 0)
def m_Course___init___5 : SM := sAsg (gSet 5) (fE (eA1 tupleV (eLc (iSeq (eV 4)) (gSet 7) (bYes) (e2 ixV (eFld "Course" "results" (eV 0)) (eV 7)) [7])))
def m_Course___init___6 : SM := sAppO (eFld "Course" "results" (eV 0)) (eCall 3 F_room_results (aC (eV 2) (aC (eV 3) (aC (eV 5) (aN)))))
def m_Course___init___7 : SM := sAppO (eFld "Course" "legs" (eV 0)) (eLc (iA rng1V (aC (eA1 lenV (eV 2)) (aN))) (gSet 8) (bYes) (eCall 4 F_legs_of (aC (eV 2) (aC (eV 3) (aC (eV 5) (aC (eV 8) (aN)))))) [8])
def m_Course___init___4 : SM := sFor (ggTup 2 (ggCons (gSet 3) (ggCons (gSet 4) (ggNil)))) (iSeq (eV 1))
    (sSeq m_Course___init___5 (sSeq m_Course___init___6 m_Course___init___7))
def m_Course___init___8 : SM := sFldS "Course" "steps" (eA mkObj (aN)) (eV 0)
def m_Course___init___10 : SM := sAppO (eFld "Course" "steps" (eV 0)) (eLc (iA rng1V (aC (eA1 lenV (eV 2)) (aN))) (gSet 8) (bYes) (eMeth "Course" "steps_in" 2 F_Course_steps_in (eV 0) (aC (eV 6) (aC (eV 8) (aN)))) [8])
def m_Course___init___9 : SM := sFor (gSet 6) (iA rng1V (aC (eA1 lenV (eV 1)) (aN)))
    (m_Course___init___10)
def m_Course___init__ : SM := sSeq m_Course___init___1 (sSeq m_Course___init___2 (sSeq m_Course___init___3 (sSeq m_Course___init___4 (sSeq m_Course___init___8 m_Course___init___9))))
theorem m_Course___init___1_E {fr : Fr} {S : Store} : m_Course___init___1 fr S = (sFldS "Course" "plan" (eV 1) (eV 0)) fr S := rfl
theorem m_Course___init___2_E {fr : Fr} {S : Store} : m_Course___init___2 fr S = (sFldS "Course" "results" (eA mkObj (aN)) (eV 0)) fr S := rfl
theorem m_Course___init___3_E {fr : Fr} {S : Store} : m_Course___init___3 fr S = (sFldS "Course" "legs" (eA mkObj (aN)) (eV 0)) fr S := rfl
theorem m_Course___init___5_E {fr : Fr} {S : Store} : m_Course___init___5 fr S = (sAsg (gSet 5) (fE (eA1 tupleV (eLc (iSeq (eV 4)) (gSet 7) (bYes) (e2 ixV (eFld "Course" "results" (eV 0)) (eV 7)) [7])))) fr S := rfl
theorem m_Course___init___6_E {fr : Fr} {S : Store} : m_Course___init___6 fr S = (sAppO (eFld "Course" "results" (eV 0)) (eCall 3 F_room_results (aC (eV 2) (aC (eV 3) (aC (eV 5) (aN)))))) fr S := rfl
theorem m_Course___init___7_E {fr : Fr} {S : Store} : m_Course___init___7 fr S = (sAppO (eFld "Course" "legs" (eV 0)) (eLc (iA rng1V (aC (eA1 lenV (eV 2)) (aN))) (gSet 8) (bYes) (eCall 4 F_legs_of (aC (eV 2) (aC (eV 3) (aC (eV 5) (aC (eV 8) (aN)))))) [8])) fr S := rfl
theorem m_Course___init___4_E {fr : Fr} {S : Store} : m_Course___init___4 fr S = (sFor (ggTup 2 (ggCons (gSet 3) (ggCons (gSet 4) (ggNil)))) (iSeq (eV 1))
    (sSeq m_Course___init___5 (sSeq m_Course___init___6 m_Course___init___7))) fr S := rfl
theorem m_Course___init___8_E {fr : Fr} {S : Store} : m_Course___init___8 fr S = (sFldS "Course" "steps" (eA mkObj (aN)) (eV 0)) fr S := rfl
theorem m_Course___init___10_E {fr : Fr} {S : Store} : m_Course___init___10 fr S = (sAppO (eFld "Course" "steps" (eV 0)) (eLc (iA rng1V (aC (eA1 lenV (eV 2)) (aN))) (gSet 8) (bYes) (eMeth "Course" "steps_in" 2 F_Course_steps_in (eV 0) (aC (eV 6) (aC (eV 8) (aN)))) [8])) fr S := rfl
theorem m_Course___init___9_E {fr : Fr} {S : Store} : m_Course___init___9 fr S = (sFor (gSet 6) (iA rng1V (aC (eA1 lenV (eV 1)) (aN)))
    (m_Course___init___10)) fr S := rfl
theorem m_Course___init___E {fr : Fr} {S : Store} : m_Course___init__ fr S = (sSeq m_Course___init___1 (sSeq m_Course___init___2 (sSeq m_Course___init___3 (sSeq m_Course___init___4 (sSeq m_Course___init___8 m_Course___init___9))))) fr S := rfl
def F_Course___init__ : FN := bodyF 9 m_Course___init__
local macro_rules
  | `(tactic| walk_at "go") => `(tactic| simp only [sSeq, ssat_next, ssat_toS, ssat_nx, ssat_rt, ssat_bk, ssat_ct, ssat_bad, ssat_ite, if_false_right, sat_ok, sat_bad, sat_exc, sat_bind, sat_ite, sPutO, sPutI, sPutD, eD, ownD, sAsg, fE, sIf, sNx, sRet, sDrop, sOwn, sApp, sExt, sPar, sFor, e1, e2, eV, eC, eA, eA1, aC, aN, eSl, oN, oS, eP, eM1, eIf, eCall, eChain, eJ, jC, jN, bB, bTr, bAnd, bOr, bNot, eAnd, eOr, eNot, bYes, iSeq, iA, ofG, ofO, fmtV, strV, tupleV, listV, iaddV, PD.eq_int, PD.eq_str, eq_self, gSet, ggNil, ggCons, ggTup, mkTup, mkLst, mkObj, asDs, asD, ownL,
      List.map_cons, List.map_nil, List.cons_append, List.nil_append, List.length_cons, List.length_nil, List.length_set, List.replicate, List.getElem?_cons_succ, List.getElem?_cons_zero, List.getElem?_nil, List.set_cons_succ, List.set_cons_zero, List.all_cons, List.all_nil, setAll, Option.map_some, Option.map_none, Option.bind_some, Option.bind_none,
      ixV, addV, subV, mulV, modV, divV, powV, negV, lenV, intV, absI, enumV, iterV, PD.slV, boolV, truthV, ltD, revA, ltV, gtV, leV, geV, isV, isNone, L2.atI, ixN, Bool.false_xor, Bool.true_xor, Bool.not_true, Bool.not_false, Bool.and_true, Bool.true_and, Bool.and_false, Bool.false_and, decide_true, decide_false, decide_eq_true_eq, Bool.and_eq_true, if_true, if_false, reduceIte, Bool.false_eq_true, Str.empty_append, List.length_append, ite_true, ite_false, true_and, and_true, Int.cast_ofNat_Int, Nat.reduceAdd, Nat.reduceSub, Nat.reduceLT, Int.reduceLT, Int.reduceLE, Int.reduceToNat, Nat.lt_add_one])
local macro_rules
  | `(tactic| walk_at "g0") => `(tactic| simp only [sSeq, ssat_next, ssat_toS, ssat_nx, ssat_rt, ssat_bk, ssat_ct, ssat_bad, ssat_ite, if_false_right, sat_ok, sat_bad, sat_exc, sat_bind, sat_ite, sPutO, sPutI, sPutD, eD, ownD, sAsg, fE, sIf, sNx, sRet, sDrop, sOwn, sApp, sExt, sPar, sFor, e1, e2, eV, eC, eA, eA1, aC, aN, eSl, oN, oS, eP, eM1, eIf, eCall, eChain, eJ, jC, jN, bB, bTr, bAnd, bOr, bNot, eAnd, eOr, eNot, bYes, iSeq, iA, ofG, ofO, fmtV, strV, tupleV, listV, iaddV, PD.eq_int, PD.eq_str, eq_self, gSet, ggNil, ggCons, ggTup, mkTup, mkLst, mkObj, asDs, asD, ownL,
      List.map_cons, List.map_nil, List.cons_append, List.nil_append, List.length_cons, List.length_nil, List.length_set, List.replicate, List.getElem?_cons_succ, List.getElem?_cons_zero, List.getElem?_nil, List.set_cons_succ, List.set_cons_zero, List.all_cons, List.all_nil, setAll, ixT0, ixT1, ixT2, ixL0, ixL1, ixL2, Option.map_some, Option.map_none, Option.bind_some, Option.bind_none,
      addV, subV, mulV, modV, divV, powV, negV, lenV, intV, absI, enumV, iterV, PD.slV, boolV, truthV, ltD, revA, ltV, gtV, leV, geV, isV, isNone, Bool.false_xor, Bool.true_xor, Bool.not_true, Bool.not_false, Bool.and_true, Bool.true_and, Bool.and_false, Bool.false_and, decide_true, decide_false, decide_eq_true_eq, Bool.and_eq_true, if_true, if_false, reduceIte, Bool.false_eq_true, Str.empty_append, List.length_append, ite_true, ite_false, true_and, and_true, Int.cast_ofNat_Int, Nat.reduceAdd, Nat.reduceSub, Nat.reduceLT, Int.reduceLT, Int.reduceLE, Int.reduceToNat, Nat.lt_add_one])
local macro_rules
  | `(tactic| walk_at "g1") => `(tactic| simp only [sSeq, ssat_next, ssat_toS, ssat_nx, ssat_rt, ssat_bk, ssat_ct, ssat_bad, ssat_ite, if_false_right, sat_ok, sat_bad, sat_exc, sat_bind, sat_ite, sPutO, sPutI, sPutD, eD, ownD, sAsg, fE, sIf, sNx, sRet, sDrop, sOwn, sApp, sExt, sPar, sFor, e1, e2, eV, eC, eA, eA1, aC, aN, eSl, oN, oS, eP, eM1, eIf, eCall, eChain, eJ, jC, jN, bB, bTr, bAnd, bOr, bNot, eAnd, eOr, eNot, bYes, iSeq, iA, ofG, ofO, fmtV, strV, tupleV, listV, iaddV, PD.eq_int, PD.eq_str, eq_self, gSet, ggNil, ggCons, ggTup, mkTup, mkLst, mkObj, asDs, asD, ownL,
      List.map_cons, List.map_nil, List.cons_append, List.nil_append, List.length_cons, List.length_nil, List.length_set, List.replicate, List.getElem?_cons_succ, List.getElem?_cons_zero, List.getElem?_nil, List.set_cons_succ, List.set_cons_zero, List.all_cons, List.all_nil, setAll, ixT0, ixT1, ixT2, ixL0, ixL1, ixL2, Option.map_some, Option.map_none, Option.bind_some, Option.bind_none,
      addV, subV, mulV, modV, divV, powV, negV, lenV, intV, absI, enumV, iterV, PD.slV, boolV, truthV, ltD, revA, ltV, gtV, leV, geV, isV, isNone, Bool.false_xor, Bool.true_xor, Bool.not_true, Bool.not_false, Bool.and_true, Bool.true_and, Bool.and_false, Bool.false_and, decide_true, decide_false, decide_eq_true_eq, Bool.and_eq_true, if_true, if_false, reduceIte, Bool.false_eq_true, Str.empty_append, List.length_append, ite_true, ite_false, true_and, and_true, Int.cast_ofNat_Int, Nat.reduceAdd, Nat.reduceSub, Nat.reduceLT, Int.reduceLT, Int.reduceSub, Int.reduceAdd, Int.reduceNeg, Int.reduceLE, Int.reduceToNat, Nat.lt_add_one])
local macro_rules
  | `(tactic| walk_at "g") => `(tactic| simp only [sSeq, ssat_next, ssat_toS, ssat_nx, ssat_rt, ssat_bk, ssat_ct, ssat_bad, ssat_ite, if_false_right, sat_ok, sat_bad, sat_exc, sat_bind, sat_ite, sPutO, sPutI, sPutD, sAug, eD, ownD, sAsg, fE, sIf, sNx, sRet, sDrop, sOwn, sApp, sExt, sPar, sFor, e1, e2, eV, eC, eA, eA1, aC, aN, eSl, oN, oS, eP, eM1, eIf, eCall, eChain, eJ, jC, jN, bB, bTr, bAnd, bOr, bNot, eAnd, eOr, eNot, bYes, iSeq, iA, ofG, ofO, fmtV, strV, tupleV, listV, iaddV, PD.eq_int, PD.eq_str, eq_self, gSet, ggNil, ggCons, ggTup, mkTup, mkLst, mkObj, asDs, asD, ownL,
      List.map_cons, List.map_nil, List.cons_append, List.nil_append, List.length_cons, List.length_nil, List.length_set, List.replicate, List.getElem?_cons_succ, List.getElem?_cons_zero, List.getElem?_nil, List.set_cons_succ, List.set_cons_zero, List.all_cons, List.all_nil, setAll, ixT0, ixT1, ixT2, ixL0, ixL1, ixL2, Option.map_some, Option.map_none, Option.bind_some, Option.bind_none,
      addV, subV, mulW, mulV, modV, divV, powV, negV, lenV, intV, absI, enumV, iterV, PD.slV, boolV, truthV, ltD, revA, ltV, gtV, leV, geV, isV, isNone, Bool.false_xor, Bool.true_xor, Bool.not_true, Bool.not_false, Bool.and_true, Bool.true_and, Bool.and_false, Bool.false_and, decide_true, decide_false, decide_eq_true_eq, Bool.and_eq_true, if_true, if_false, reduceIte, Bool.false_eq_true, Str.empty_append, List.length_append, ite_true, ite_false, true_and, and_true, Int.cast_ofNat_Int, Nat.reduceAdd, Nat.reduceSub, Nat.reduceLT, Int.reduceLT, Int.reduceSub, Int.reduceAdd, Int.reduceNeg, Int.reduceLE, Int.reduceToNat, Nat.lt_add_one, beq_iff_eq, sizeLine_eq, Nat.reduceLeDiff, inV_tup, inV_lst, eqv_str, eqv_int, eqV_nilT, cutD_tail, false_and, and_false, or_true, true_or, or_false, false_or, ixT3, Bool.true_eq_false, Bool.or_eq_false_iff, decide_eq_false_iff_not, Int.not_le, Int.not_lt, beq_self_eq_true, Int.reduceBEq, Bool.not_eq_eq_eq_not, beq_eq_false_iff_ne, ne_eq, not_true_eq_false, not_false_eq_true, List.isEmpty_cons, List.isEmpty_nil, List.any_cons, List.any_nil, Bool.or_false, Bool.or_eq_true, isaV, PyData.isInt, PyData.isStr, PyData.isBool, PyData.isTuple, PyData.isList, PyData.isDict, m_Course_inner_1_E, m_Course_inner_E, m_Course_leg_steps_2_E, m_Course_leg_steps_1_E, m_Course_leg_steps_3_E, m_Course_leg_steps_4_E, m_Course_leg_steps_E, m_Course_steps_in_1_E, m_Course_steps_in_3_E, m_Course_steps_in_2_E, m_Course_steps_in_4_E, m_Course_steps_in_E, m_Course___init___1_E, m_Course___init___2_E, m_Course___init___3_E, m_Course___init___5_E, m_Course___init___6_E, m_Course___init___7_E, m_Course___init___4_E, m_Course___init___8_E, m_Course___init___10_E, m_Course___init___9_E, m_Course___init___E])
local macro_rules
  | `(tactic| walk_at "gt") => `(tactic| try walk_at "go")
local macro_rules
  | `(tactic| walk_at "gq") => `(tactic| try walk_at "g0")
local macro_rules
  | `(tactic| walk_at "len") => `(tactic| (simp only [Str.length_append, PySem.ofString_length, len_nil, sizeLine_eq] at *; omega))
local macro_rules
  | `(tactic| walk_at "fin") => `(tactic| ((repeat' apply And.intro) <;> first | assumption | exact True.intro | walk_at "len" | rfl))
local macro_rules
  | `(tactic| walk_at "start") => `(tactic| (rw [sat_body]; simp only [List.map_cons, List.map_nil, List.cons_append, List.nil_append, List.length_cons, List.length_nil, Nat.reduceAdd, Nat.reduceSub, List.replicate]))
local macro_rules
  | `(tactic| walk_at "wd") => `(tactic| first | assumption | exact Wd.none | exact Wd.bool | exact Wd.small (by decide) (by decide) | exact Wd.lit (by decide) | exact Wd.dict0 | exact Wd.tup Wds.nil | exact Wd.lst Wds.nil | (refine Wd.t1 (k := 2) (a := 990) ?_ (by decide) <;> walk_at "wd") | (refine Wd.t2 (k := 2) (a := 990) (b := 990) ?_ ?_ (by decide) <;> walk_at "wd") | (refine Wd.t3 (k := 2) (a := 990) (b := 990) (c := 990) ?_ ?_ ?_ (by decide) <;> walk_at "wd") | (refine Wd.t4 (k := 2) (a := 990) (b := 990) (c := 990) (e := 990) ?_ ?_ ?_ ?_ (by decide) <;> walk_at "wd") | (refine Wd.t1 (k := 1) (a := 240) ?_ (by decide) <;> walk_at "wd") | (refine Wd.t2 (k := 1) (a := 240) (b := 240) ?_ ?_ (by decide) <;> walk_at "wd") | (refine Wd.t3 (k := 1) (a := 240) (b := 240) (c := 240) ?_ ?_ ?_ (by decide) <;> walk_at "wd") | (refine Wd.t4 (k := 1) (a := 240) (b := 240) (c := 240) (e := 240) ?_ ?_ ?_ ?_ (by decide) <;> walk_at "wd") | (refine Wd.t1 (k := 0) (a := 55) ?_ (by decide) <;> walk_at "wd") | (refine Wd.t2 (k := 0) (a := 55) (b := 55) ?_ ?_ (by decide) <;> walk_at "wd") | (refine Wd.t3 (k := 0) (a := 55) (b := 55) (c := 55) ?_ ?_ ?_ (by decide) <;> walk_at "wd") | (refine Wd.t4 (k := 0) (a := 55) (b := 55) (c := 55) (e := 55) ?_ ?_ ?_ ?_ (by decide) <;> walk_at "wd"))
local macro_rules
  | `(tactic| walk_at "c") => `(tactic| simp only [eFld, sFldS, sAppO, eMeth, eMake, sSeq, ssat_next, ssat_toS, ssat_nx, ssat_rt, ssat_bk, ssat_ct, ssat_bad, ssat_ite, if_false_right, sat_ok, sat_bad, sat_exc, sat_bind, sat_ite, sPutO, sPutI, sPutD, sAug, eD, ownD, sAsg, fE, sIf, sNx, sRet, sDrop, sOwn, sApp, sExt, sPar, sFor, e1, e2, eV, eC, eA, eA1, aC, aN, eSl, oN, oS, eP, eM1, eIf, eCall, eChain, eJ, jC, jN, bB, bTr, bAnd, bOr, bNot, eAnd, eOr, eNot, bYes, iSeq, iA, ofG, ofO, fmtV, strV, tupleV, listV, iaddV, PD.eq_int, PD.eq_str, eq_self, gSet, ggNil, ggCons, ggTup, mkTup, mkLst, mkObj, asDs, asD, ownL,
      List.map_cons, List.map_nil, List.cons_append, List.nil_append, List.length_cons, List.length_nil, List.length_set, List.replicate, List.getElem?_cons_succ, List.getElem?_cons_zero, List.getElem?_nil, List.set_cons_succ, List.set_cons_zero, List.all_cons, List.all_nil, setAll, ixT0, ixT1, ixT2, ixL0, ixL1, ixL2, Option.map_some, Option.map_none, Option.bind_some, Option.bind_none,
      addV, subV, mulW, mulV, modV, divV, powV, negV, lenV, intV, absI, enumV, iterV, PD.slV, boolV, truthV, ltD, revA, ltV, gtV, leV, geV, isV, isNone, Bool.false_xor, Bool.true_xor, Bool.not_true, Bool.not_false, Bool.and_true, Bool.true_and, Bool.and_false, Bool.false_and, decide_true, decide_false, decide_eq_true_eq, Bool.and_eq_true, if_true, if_false, reduceIte, Bool.false_eq_true, Str.empty_append, List.length_append, ite_true, ite_false, true_and, and_true, Int.cast_ofNat_Int, Nat.reduceAdd, Nat.reduceSub, Nat.reduceLT, Int.reduceLT, Int.reduceSub, Int.reduceAdd, Int.reduceNeg, Int.reduceLE, Int.reduceToNat, Nat.lt_add_one, beq_iff_eq, sizeLine_eq, Nat.reduceLeDiff, inV_tup, inV_lst, eqv_str, eqv_int, eqV_nilT, cutD_tail, false_and, and_false, or_true, true_or, or_false, false_or, ixT3, Bool.true_eq_false, Bool.or_eq_false_iff, decide_eq_false_iff_not, Int.not_le, Int.not_lt, beq_self_eq_true, Int.reduceBEq, Bool.not_eq_eq_eq_not, beq_eq_false_iff_ne, ne_eq, not_true_eq_false, not_false_eq_true, List.isEmpty_cons, List.isEmpty_nil, List.any_cons, List.any_nil, Bool.or_false, Bool.or_eq_true, isaV, PyData.isInt, PyData.isStr, PyData.isBool, PyData.isTuple, PyData.isList, PyData.isDict, m_Course_inner_1_E, m_Course_inner_E, m_Course_leg_steps_2_E, m_Course_leg_steps_1_E, m_Course_leg_steps_3_E, m_Course_leg_steps_4_E, m_Course_leg_steps_E, m_Course_steps_in_1_E, m_Course_steps_in_3_E, m_Course_steps_in_2_E, m_Course_steps_in_4_E, m_Course_steps_in_E, m_Course___init___1_E, m_Course___init___2_E, m_Course___init___3_E, m_Course___init___5_E, m_Course___init___6_E, m_Course___init___7_E, m_Course___init___4_E, m_Course___init___8_E, m_Course___init___10_E, m_Course___init___9_E, m_Course___init___E])
theorem nk_plan_results : ((Str.ofString "plan" : Str) == Str.ofString "results") = false := by decide +kernel
theorem nk_plan_legs : ((Str.ofString "plan" : Str) == Str.ofString "legs") = false := by decide +kernel
theorem nk_plan_steps : ((Str.ofString "plan" : Str) == Str.ofString "steps") = false := by decide +kernel
theorem nk_results_plan : ((Str.ofString "results" : Str) == Str.ofString "plan") = false := by decide +kernel
theorem nk_results_legs : ((Str.ofString "results" : Str) == Str.ofString "legs") = false := by decide +kernel
theorem nk_results_steps : ((Str.ofString "results" : Str) == Str.ofString "steps") = false := by decide +kernel
theorem nk_legs_plan : ((Str.ofString "legs" : Str) == Str.ofString "plan") = false := by decide +kernel
theorem nk_legs_results : ((Str.ofString "legs" : Str) == Str.ofString "results") = false := by decide +kernel
theorem nk_legs_steps : ((Str.ofString "legs" : Str) == Str.ofString "steps") = false := by decide +kernel
theorem nk_steps_plan : ((Str.ofString "steps" : Str) == Str.ofString "plan") = false := by decide +kernel
theorem nk_steps_results : ((Str.ofString "steps" : Str) == Str.ofString "results") = false := by decide +kernel
theorem nk_steps_legs : ((Str.ofString "steps" : Str) == Str.ofString "legs") = false := by decide +kernel
theorem nk_inner_plan : ((Str.ofString "inner" : Str) == Str.ofString "plan") = false := by decide +kernel
theorem nk_inner_results : ((Str.ofString "inner" : Str) == Str.ofString "results") = false := by decide +kernel
theorem nk_inner_legs : ((Str.ofString "inner" : Str) == Str.ofString "legs") = false := by decide +kernel
theorem nk_inner_steps : ((Str.ofString "inner" : Str) == Str.ofString "steps") = false := by decide +kernel
theorem nk_leg_steps_plan : ((Str.ofString "leg_steps" : Str) == Str.ofString "plan") = false := by decide +kernel
theorem nk_leg_steps_results : ((Str.ofString "leg_steps" : Str) == Str.ofString "results") = false := by decide +kernel
theorem nk_leg_steps_legs : ((Str.ofString "leg_steps" : Str) == Str.ofString "legs") = false := by decide +kernel
theorem nk_leg_steps_steps : ((Str.ofString "leg_steps" : Str) == Str.ofString "steps") = false := by decide +kernel
theorem nk_steps_in_plan : ((Str.ofString "steps_in" : Str) == Str.ofString "plan") = false := by decide +kernel
theorem nk_steps_in_results : ((Str.ofString "steps_in" : Str) == Str.ofString "results") = false := by decide +kernel
theorem nk_steps_in_legs : ((Str.ofString "steps_in" : Str) == Str.ofString "legs") = false := by decide +kernel
theorem nk_steps_in_steps : ((Str.ofString "steps_in" : Str) == Str.ofString "steps") = false := by decide +kernel
theorem nk_last_path_plan : ((Str.ofString "last_path" : Str) == Str.ofString "plan") = false := by decide +kernel
theorem nk_last_path_results : ((Str.ofString "last_path" : Str) == Str.ofString "results") = false := by decide +kernel
theorem nk_last_path_legs : ((Str.ofString "last_path" : Str) == Str.ofString "legs") = false := by decide +kernel
theorem nk_last_path_steps : ((Str.ofString "last_path" : Str) == Str.ofString "steps") = false := by decide +kernel
theorem nq_plan_results : ((Str.ofString "plan" : Str) = Str.ofString "results") = False := eq_false (by decide +kernel)
theorem nq_plan_legs : ((Str.ofString "plan" : Str) = Str.ofString "legs") = False := eq_false (by decide +kernel)
theorem nq_plan_steps : ((Str.ofString "plan" : Str) = Str.ofString "steps") = False := eq_false (by decide +kernel)
theorem nq_results_plan : ((Str.ofString "results" : Str) = Str.ofString "plan") = False := eq_false (by decide +kernel)
theorem nq_results_legs : ((Str.ofString "results" : Str) = Str.ofString "legs") = False := eq_false (by decide +kernel)
theorem nq_results_steps : ((Str.ofString "results" : Str) = Str.ofString "steps") = False := eq_false (by decide +kernel)
theorem nq_legs_plan : ((Str.ofString "legs" : Str) = Str.ofString "plan") = False := eq_false (by decide +kernel)
theorem nq_legs_results : ((Str.ofString "legs" : Str) = Str.ofString "results") = False := eq_false (by decide +kernel)
theorem nq_legs_steps : ((Str.ofString "legs" : Str) = Str.ofString "steps") = False := eq_false (by decide +kernel)
theorem nq_steps_plan : ((Str.ofString "steps" : Str) = Str.ofString "plan") = False := eq_false (by decide +kernel)
theorem nq_steps_results : ((Str.ofString "steps" : Str) = Str.ofString "results") = False := eq_false (by decide +kernel)
theorem nq_steps_legs : ((Str.ofString "steps" : Str) = Str.ofString "legs") = False := eq_false (by decide +kernel)
local macro_rules
  | `(tactic| walk_at "n") => `(tactic| simp only [List.lookup_cons, List.lookup_nil, putS, nk_plan_results, nk_plan_legs, nk_plan_steps, nk_results_plan, nk_results_legs, nk_results_steps, nk_legs_plan, nk_legs_results, nk_legs_steps, nk_steps_plan, nk_steps_results, nk_steps_legs, nk_inner_plan, nk_inner_results, nk_inner_legs, nk_inner_steps, nk_leg_steps_plan, nk_leg_steps_results, nk_leg_steps_legs, nk_leg_steps_steps, nk_steps_in_plan, nk_steps_in_results, nk_steps_in_legs, nk_steps_in_steps, nk_last_path_plan, nk_last_path_results, nk_last_path_legs, nk_last_path_steps, nq_plan_results, nq_plan_legs, nq_plan_steps, nq_results_plan, nq_results_legs, nq_results_steps, nq_legs_plan, nq_legs_results, nq_legs_steps, nq_steps_plan, nq_steps_results, nq_steps_legs, beq_self_eq_true, if_false, if_true, Option.isNone_none, Option.isNone_some, Bool.false_eq_true])
section
variable {S0 : Store} {a b c d : Ob}
theorem crs0 : (S0 ++ [a, b, c, d])[S0.length]? = some a := by rw [List.getElem?_append_right (Nat.le_refl _), Nat.sub_self]; rfl
theorem crs1 : (S0 ++ [a, b, c, d])[S0.length + 1]? = some b := by rw [List.getElem?_append_right (by omega), show S0.length + 1 - S0.length = 1 by omega]; rfl
theorem crs2 : (S0 ++ [a, b, c, d])[S0.length + 2]? = some c := by rw [List.getElem?_append_right (by omega), show S0.length + 2 - S0.length = 2 by omega]; rfl
theorem crs3 : (S0 ++ [a, b, c, d])[S0.length + 3]? = some d := by rw [List.getElem?_append_right (by omega), show S0.length + 3 - S0.length = 3 by omega]; rfl
theorem crsS0 {x : Ob} : (S0 ++ [a, b, c, d]).set S0.length x = S0 ++ [x, b, c, d] := by rw [List.set_append_right _ _ (Nat.le_refl _), Nat.sub_self]; rfl
theorem crsS3 {x : Ob} : (S0 ++ [a, b, c, d]).set (S0.length + 3) x = S0 ++ [a, b, c, x] := by rw [List.set_append_right _ _ (by omega), show S0.length + 3 - S0.length = 3 by omega]; rfl
theorem crt0 : (S0 ++ [a, b, c])[S0.length]? = some a := by rw [List.getElem?_append_right (Nat.le_refl _), Nat.sub_self]; rfl
theorem crt1 : (S0 ++ [a, b, c])[S0.length + 1]? = some b := by rw [List.getElem?_append_right (by omega), show S0.length + 1 - S0.length = 1 by omega]; rfl
theorem crt2 : (S0 ++ [a, b, c])[S0.length + 2]? = some c := by rw [List.getElem?_append_right (by omega), show S0.length + 2 - S0.length = 2 by omega]; rfl
theorem crtS1 {x : Ob} : (S0 ++ [a, b, c]).set (S0.length + 1) x = S0 ++ [a, x, c] := by rw [List.set_append_right _ _ (by omega), show S0.length + 1 - S0.length = 1 by omega]; rfl
theorem crtS2 {x : Ob} : (S0 ++ [a, b, c]).set (S0.length + 2) x = S0 ++ [a, b, x] := by rw [List.set_append_right _ _ (by omega), show S0.length + 2 - S0.length = 2 by omega]; rfl
end
theorem ins_get {C : Str} {n : Nat} {S : Store} {fs : List (Str × SV)} (h : S[n]? = some (.ins C fs)) : insOf C (.obj n) S = some (n, fs) := by
  simp [insOf, h]
theorem fld_get {C f : Str} {n : Nat} {S : Store} {fs : List (Str × SV)} {v : SV} (h : S[n]? = some (.ins C fs)) (hl : fs.lookup f = some v) : fldV C f (.obj n) S = .ok v S := by
  simp [fldV, ins_get h, hl]
theorem ix_obj {n : Nat} {S : Store} {xs : List SV} {i : Nat} {x : SV} (h : S[n]? = some (.lst xs)) (hx : xs[i]? = some x) : ixV (.obj n) (.d (.int (i : Nat))) S = .ok x S := by
  have hl := (List.getElem?_eq_some_iff.mp hx).1
  have : L2.atI xs (i : Nat) = some x := by
    unfold L2.atI
    have : ixN xs.length ((i : Nat) : Int) = some i := by
      unfold ixN
      first | (simp; omega) | (split <;> simp <;> omega)
    first | (rw [this]; exact hx) | (simp [this, hx])
  simp only [ixV, h, this]
theorem ix_objlast {n : Nat} {S : Store} {xs : List SV} {x : SV} (h : S[n]? = some (.lst (xs ++ [x]))) : ixV (.obj n) (.d (.int (-1))) S = .ok x S := by
  have : L2.atI (xs ++ [x]) (-1) = some x := by
    unfold L2.atI
    have : ixN (xs ++ [x]).length (-1) = some xs.length := by
      unfold ixN
      first | (simp; omega) | (simp) | (split <;> simp <;> omega)
    first | (rw [this]; simp) | (simp [this])
  simp only [ixV, h, this]
def cfs (n : Nat) (P : Plan) : List (Str × SV) := [("plan", .d (planD P)), ("results", .obj (n + 1)), ("legs", .obj (n + 2)), ("steps", .obj (n + 3))]
def legsM (R : Rob) : Maze → PyData
  | .mk s bs => .list ((List.range R.length).map fun i : Nat => legsD (legs R s (resBs R bs) (i : Nat)))
def stepD : Option Nat → PyData
  | none => .none
  | some n => .int (n : Nat)
def stepsM (R : Rob) (m : Maze) : PyData := .list ((stB R m).map stepD)
def crsS (S0 : Store) (P : Plan) (R : Rob) (k : Nat) : Store := S0 ++ [.ins "Course" (cfs S0.length P), .lst ((unf P).map fun m => .d (resD (resB R m))), .lst ((unf P).map fun m => .d (legsM R m)), .lst (((unf P).take k).map fun m => .d (stepsM R m))]
theorem cf_plan {n : Nat} {P : Plan} : (cfs n P).lookup (Str.ofString "plan") = some (.d (planD P)) := by unfold cfs; walk_at "n"
theorem cf_results {n : Nat} {P : Plan} : (cfs n P).lookup (Str.ofString "results") = some (.obj (n + 1)) := by unfold cfs; walk_at "n"
theorem cf_legs {n : Nat} {P : Plan} : (cfs n P).lookup (Str.ofString "legs") = some (.obj (n + 2)) := by unfold cfs; walk_at "n"
theorem cf_steps {n : Nat} {P : Plan} : (cfs n P).lookup (Str.ofString "steps") = some (.obj (n + 3)) := by unfold cfs; walk_at "n"
theorem cf_inner {n : Nat} {P : Plan} : (cfs n P).lookup (Str.ofString "inner") = none := by unfold cfs; walk_at "n"
theorem cf_leg_steps {n : Nat} {P : Plan} : (cfs n P).lookup (Str.ofString "leg_steps") = none := by unfold cfs; walk_at "n"
theorem cf_steps_in {n : Nat} {P : Plan} : (cfs n P).lookup (Str.ofString "steps_in") = none := by unfold cfs; walk_at "n"
theorem cf_last_path {n : Nat} {P : Plan} : (cfs n P).lookup (Str.ofString "last_path") = none := by unfold cfs; walk_at "n"
theorem cast_sumN {α : Type} {f : α → Nat} : ∀ xs : List α, (xs.map fun x => ((f x : Nat) : Int)).sum = (((xs.map f).sum : Nat) : Int)
  | [] => rfl
  | x :: xs => by rw [List.map_cons, List.sum_cons, cast_sumN xs, List.map_cons, List.sum_cons]; omega
def bsOf (P : Plan) (ns : List Nat) : List Maze := ns.map fun n => (unf P).getD n dM
theorem unf_ent {P : Plan} (h : PlanWf P) {e : Nat} {s : Str} {ns : List Nat} (q : P[e]? = some (s, ns)) : (unf P)[e]? = some (.mk s (bsOf P ns)) := by
  obtain ⟨a, b⟩ := unf_at q
  rw [a]
  congr 2
  refine List.map_congr_left fun n hn => b n ((h.at_ e (s, ns) q).2.2 n hn)
section
variable {S0 : Store} {P : Plan} {R : Rob} {k : Nat}
theorem stB_len (R : Rob) : ∀ m : Maze, (stB R m).length = R.length
  | .mk s bs => by simp [stB]
theorem crs_at1 : (crsS S0 P R k)[S0.length + 1]? = some (.lst ((unf P).map fun m => .d (resD (resB R m)))) := crs1
theorem crs_at2 : (crsS S0 P R k)[S0.length + 2]? = some (.lst ((unf P).map fun m => .d (legsM R m))) := crs2
theorem crs_at3 : (crsS S0 P R k)[S0.length + 3]? = some (.lst (((unf P).take k).map fun m => .d (stepsM R m))) := crs3
theorem crs_at0 : (crsS S0 P R k)[S0.length]? = some (.ins "Course" (cfs S0.length P)) := crs0
theorem inner_eq {e : Nat} {s : Str} {ns : List Nat} {l : Leg} {i : Int} (q : P[e]? = some (s, ns)) (hb : l.bran = some i) (i0 : 0 ≤ i) (i1 : i < ns.length) :
    F_Course_inner [.obj S0.length, .d (.int (e : Nat)), .d l.d] (crsS S0 P R k) = .ok (.d (.int ((ns.getD i.toNat 0 : Nat)))) (crsS S0 P R k) := by
  have he := (List.getElem?_eq_some_iff.mp q).1
  have hx := (List.getElem?_eq_some_iff.mp q).2
  refine sat_eq ?_
  unfold F_Course_inner
  walk_at "start"
  walk_at "c"
  rw [fld_get crs_at0 cf_plan]
  walk_at "c"
  rw [show planD P = .tuple (P.map entD) from rfl]
  rw [ ix_get (by omega) (by rw [List.length_map]; omega)]
  simp only [List.getElem_map]
  rw [show P[((e : Nat) : Int).toNat]'(by simpa using he) = (s, ns) from hx]
  simp only [entD, Leg.d, hb, optI]
  walk_at "c"
  rw [ix_get i0 (by rw [List.length_map]; exact i1)]
  simp only [List.getElem_map]
  walk_at "c"
  rw [List.getD_eq_getElem?_getD, List.getElem?_eq_getElem (by omega), Option.getD_some]
theorem leg_steps_eq (h : PlanWf P) {e : Nat} {s : Str} {ns : List Nat} {l : Leg} (q : P[e]? = some (s, ns)) (ek : e ≤ k) (li : LegIn ns.length R.length l) (lo : legOk (stBs R (bsOf P ns)) l) :
    F_Course_leg_steps [.obj S0.length, .d (.int (e : Nat)), .d l.d] (crsS S0 P R k) = .ok (.d (.int (legSt (stBs R (bsOf P ns)) l : Nat))) (crsS S0 P R k) := by
  refine sat_eq ?_
  unfold F_Course_leg_steps
  walk_at "start"
  rw [m_Course_leg_steps_E]
  rcases li.ok with hb | ⟨i, b, hb, hn, i0, i1, b0, b1⟩
  · walk_at "c"
    simp only [Leg.d, hb, optI]
    walk_at "c"
    rw [ixT4]
    walk_at "c"
    simp only [legSt, hb]
    cases l.next <;> rfl
  · walk_at "c"
    simp only [Leg.d, hb, hn, optI]
    walk_at "c"
    rw [fld_get crs_at0 cf_steps]
    walk_at "c"
    rw [ins_get crs_at0]
    walk_at "c"
    rw [cf_inner]
    simp only [Option.isNone_none, if_true]
    walk_at "c"
    rw [show PyData.tuple [.int l.door, .int l.st, optN l.rule, .int i, .int b] = l.d by simp only [Leg.d, hb, hn, optI], inner_eq q hb i0 (by omega)]
    walk_at "c"
    have hl : i.toNat < ns.length := by omega
    have hj := (h.at_ e (s, ns) q).2.2 _ (List.getElem_mem hl)
    have gj : ns.getD i.toNat 0 = ns[i.toNat] := by rw [List.getD_eq_getElem?_getD, List.getElem?_eq_getElem hl]; rfl
    have he := (List.getElem?_eq_some_iff.mp q).1
    rw [gj]
    generalize hjd : ns[i.toNat] = j at *
    have jl : j < (unf P).length := by rw [unf_len]; omega
    have tT : (stBs R (bsOf P ns)).getD i.toNat [] = stB R ((unf P).getD j dM) := by
      rw [stBs_map, bsOf, List.map_map, List.getD_eq_getElem?_getD, List.getElem?_map, List.getElem?_eq_getElem hl, hjd]
      rfl
    rw [ix_obj (x := .d (stepsM R ((unf P).getD j dM))) crs_at3 (by
      rw [List.getElem?_map, List.getElem?_take_of_lt (by omega), List.getElem?_eq_getElem jl, List.getD_eq_getElem?_getD, List.getElem?_eq_getElem jl]
      rfl)]
    walk_at "c"
    rw [show l.d = PyData.tuple [.int l.door, .int l.st, optN l.rule, .int i, .int b] by simp only [Leg.d, hb, hn, optI], ixT4]
    walk_at "c"
    have ok := lo i b hb hn
    simp only [legSt, hb, hn]
    rw [tT] at ok ⊢
    obtain ⟨v, hv⟩ := Option.isSome_iff_exists.mp ok
    have bl : b < ((stB R ((unf P).getD j dM)).length : Nat) := by rw [stB_len]; exact b1
    rw [show stepsM R ((unf P).getD j dM) = .list ((stB R ((unf P).getD j dM)).map stepD) from rfl, ix_getL b0 (by rw [List.length_map]; exact bl)]
    simp only [List.getElem_map]
    have hv2 : (stB R ((unf P).getD j dM))[b.toNat]'(by omega) = some v := by
      rw [List.getD_eq_getElem?_getD, List.getElem?_eq_getElem (by omega)] at hv
      exact hv
    rw [hv2]
    simp only [stepD]
    walk_at "c"
    rw [hv]
    simp
theorem nv1 : ((Str.ofString "out" : Str) = Str.ofString "ever") = False := eq_false (by decide +kernel)
theorem nv2 : ((Str.ofString "stop" : Str) = Str.ofString "ever") = False := eq_false (by decide +kernel)
theorem nv3 : ((Str.ofString "stop" : Str) = Str.ofString "out") = False := eq_false (by decide +kernel)
theorem steps_in_eq (hR : RobWf R) (h : PlanWf P) {e : Nat} {s : Str} {ns : List Nat} {st : Int} (q : P[e]? = some (s, ns)) (ek : e ≤ k) (h0 : 0 ≤ st) (h1 : st < R.length) :
    F_Course_steps_in [.obj S0.length, .d (.int (e : Nat)), .d (.int st)] (crsS S0 P R k) = .ok (.d (stepD ((stB R (.mk s (bsOf P ns))).getD st.toNat none))) (crsS S0 P R k) := by
  have sz : sizeLine = 16777216 := sizeLine_eq
  have hm := unf_ent h q
  have w : (Maze.mk s (bsOf P ns)).Wf := unf_wf h _ (List.mem_of_getElem? hm)
  have g := resBs_g hR w
  have lG : (resBs R (bsOf P ns)).length = ns.length := by rw [resBs_map, List.length_map, bsOf, List.length_map]
  have n2 := (h.at_ e (s, ns) q).2.1
  have r4 := hR.few
  obtain ⟨li, _⟩ := legs_in (s := s) hR g h0 h1
  have ll := legs_len (R := R) (s := s) (G := resBs R (bsOf P ns)) (st := st)
  rw [lG] at ll li
  have ll2 : (legs R s (resBs R (bsOf P ns)) st).1.length ≤ 301 := by
    have : (1 + ns.length) * R.length ≤ 3 * 100 := Nat.mul_le_mul (by simp at n2; omega) r4
    omega
  refine sat_eq ?_
  unfold F_Course_steps_in
  walk_at "start"
  rw [m_Course_steps_in_E]
  walk_at "c"
  rw [fld_get crs_at0 cf_legs]
  walk_at "c"
  rw [ix_obj (x := .d (legsM R (.mk s (bsOf P ns)))) crs_at2 (by rw [List.getElem?_map, hm]; rfl)]
  walk_at "c"
  rw [legsM, ix_getL h0 (by simpa using h1)]
  simp only [List.getElem_map, List.getElem_range, show ((st.toNat : Nat) : Int) = st by omega]
  rw [stB, range_get h0 h1, show ((st.toNat : Nat) : Int) = st by omega]
  generalize hL : legs R s (resBs R (bsOf P ns)) st = L at *
  obtain ⟨ls, r, ag⟩ := L
  have ll3 : ls.length ≤ 301 := ll2
  simp only [legsD]
  walk_at "c"
  have rest : r ≠ .ever → (eLc (iSeq (eV 3)) (gSet 6) bYes (eMeth (Str.ofString "Course") (Str.ofString "leg_steps") 2 F_Course_leg_steps (eV 0) (aC (eV 1) (aC (eV 6) aN))) [6]
      [some (SV.obj (List.length S0)), some (SV.d (PyData.int (e : Nat))), some (SV.d (PyData.int st)), some (SV.d (PyData.list (List.map Leg.d ls))), some (SV.d r.d), some (SV.d (optN ag)), none] (crsS S0 P R k)) =
      .ok (.d (.list ((ls.map fun l => ((legSt (stBs R (bsOf P ns)) l : Nat) : Int)).map .int))) (crsS S0 P R k) := fun hv => by
    have lok := (legs_ok hR w h0 h1 (by rw [hL]; exact hv)).2
    rw [hL] at lok
    refine sat_eq ?_
    simp only [eLc]
    walk_at "c"
    rw [comp_map (enc := Leg.d) (ys := ls) (f := fun l => PyData.int (legSt (stBs R (bsOf P ns)) l : Nat)) (fun l hl => ⟨_, rfl, sat_eq (by
      simp only [wipeF]
      walk_at "c"
      rw [ins_get crs_at0]
      walk_at "c"
      rw [cf_leg_steps]
      simp only [Option.isNone_none, if_true]
      walk_at "c"
      rw [leg_steps_eq h q ek (li l hl) (lok l hl)]
      walk_at "c")⟩) (by rw [sz]; simp; omega)]
    walk_at "c"
    rw [List.map_map]
    rfl
  cases r with
  | ever =>
    simp only [Res.d]
    walk_at "c"
    rfl
  | out v =>
    have rr := rest (by intro z; cases z)
    simp only [Res.d] at rr ⊢
    walk_at "c"
    simp only [nv1, decide_false, Bool.false_xor, Bool.false_eq_true, if_false]
    try walk_at "c"
    rw [rr]
    walk_at "c"
    rw [sum_ok, cast_sumN]
    walk_at "c"
    rfl
  | stop v =>
    have rr := rest (by intro z; cases z)
    simp only [Res.d] at rr ⊢
    walk_at "c"
    simp only [nv2, decide_false, Bool.false_xor, Bool.false_eq_true, if_false]
    try walk_at "c"
    rw [rr]
    walk_at "c"
    rw [sum_ok, cast_sumN]
    walk_at "c"
    rfl
end
section
variable {S0 : Store} {a b c : Ob}
theorem crq0 : (S0 ++ [a])[S0.length]? = some a := by rw [List.getElem?_append_right (Nat.le_refl _), Nat.sub_self]; rfl
theorem crqS0 {x : Ob} : (S0 ++ [a]).set S0.length x = S0 ++ [x] := by rw [List.set_append_right _ _ (Nat.le_refl _), Nat.sub_self]; rfl
theorem crp0 : (S0 ++ [a, b])[S0.length]? = some a := by rw [List.getElem?_append_right (Nat.le_refl _), Nat.sub_self]; rfl
theorem crpS0 {x : Ob} : (S0 ++ [a, b]).set S0.length x = S0 ++ [x, b] := by rw [List.set_append_right _ _ (Nat.le_refl _), Nat.sub_self]; rfl
theorem crtS0 {x : Ob} : (S0 ++ [a, b, c]).set S0.length x = S0 ++ [x, b, c] := by rw [List.set_append_right _ _ (Nat.le_refl _), Nat.sub_self]; rfl
end
theorem eFld_ok {C f : Str} {m : EM} {fr : Fr} {n : Nat} {S : Store} {fs : List (Str × SV)} {v : SV} (hm : m fr S = .ok (.obj n) S) (h : S[n]? = some (.ins C fs)) (hl : fs.lookup f = some v) : eFld C f m fr S = .ok v S := by
  simp only [eFld, hm, Rs.bind]
  exact fld_get h hl
theorem appO_sat {mo me : EM} {fr : Fr} {n : Nat} {S : Store} {xs : List SV} {v : SV} {p : Po} (hm : mo fr S = .ok (.obj n) S) (h : S[n]? = some (.lst xs)) (he : me fr S = .ok v S) (hl : xs.length < sizeLine) (k : p.nx fr (S.set n (.lst (xs ++ [v])))) : (sAppO mo me fr S).sat p := by
  simp only [sAppO, hm, Rs.toS, h, he, if_pos hl]
  rw [ssat_nx]
  exact k
def cf3 (n : Nat) (P : Plan) : List (Str × SV) := [("plan", .d (planD P)), ("results", .obj (n + 1)), ("legs", .obj (n + 2))]
theorem c3_results {n : Nat} {P : Plan} : (cf3 n P).lookup (Str.ofString "results") = some (.obj (n + 1)) := by unfold cf3; walk_at "n"
theorem c3_legs {n : Nat} {P : Plan} : (cf3 n P).lookup (Str.ofString "legs") = some (.obj (n + 2)) := by unfold cf3; walk_at "n"
theorem c3_steps {n : Nat} {P : Plan} : putS (Str.ofString "steps") (.obj (n + 3)) (cf3 n P) = cfs n P := by unfold cf3 cfs; walk_at "n"
theorem c2_legs {n : Nat} {P : Plan} : putS (Str.ofString "legs") (.obj (n + 2)) ([("plan", .d (planD P)), ("results", .obj (n + 1))] : List (Str × SV)) = cf3 n P := by unfold cf3; walk_at "n"
theorem c1_results {n : Nat} {P : Plan} : putS (Str.ofString "results") (.obj (n + 1)) ([("plan", .d (planD P))] : List (Str × SV)) = ([("plan", .d (planD P)), ("results", .obj (n + 1))] : List (Str × SV)) := by walk_at "n"
def crsT (S0 : Store) (P Q : Plan) (R : Rob) : Store := S0 ++ [.ins "Course" (cf3 S0.length P), .lst ((unf Q).map fun m => .d (resD (resB R m))), .lst ((unf Q).map fun m => .d (legsM R m))]
section
variable {S0 : Store} {P : Plan} {R : Rob}
theorem init_eq (hR : RobWf R) (h : PlanWf P) (hl : P.length ≤ 1000) : F_Course___init__ [.obj S0.length, .d (planD P), .d (robD R)] (S0 ++ [.ins "Course" []]) = .ok (.d .none) (crsS S0 P R P.length) := by
  have sz : sizeLine = 16777216 := sizeLine_eq
  have r4 := hR.few
  refine sat_eq ?_
  unfold F_Course___init__
  walk_at "start"
  rw [m_Course___init___E]
  refine seq_sat (fun fr S => fr = [some (.obj S0.length), some (.d (planD P)), some (.d (robD R)), none, none, none, none, none, none] ∧ S = S0 ++ [.ins "Course" [("plan", .d (planD P))]]) ?_ ?_
  · walk_at "c"
    rw [ins_get crq0]
    walk_at "c"
    rw [crqS0]
    simp only [putS]
  · rintro fr S ⟨rfl, rfl⟩
    refine seq_sat (fun fr S => fr = [some (.obj S0.length), some (.d (planD P)), some (.d (robD R)), none, none, none, none, none, none] ∧ S = S0 ++ [.ins "Course" [("plan", .d (planD P)), ("results", .obj (S0.length + 1))], .lst []]) ?_ ?_
    · walk_at "c"
      rw [List.append_assoc]
      simp only [List.cons_append, List.nil_append]
      rw [ins_get crp0]
      walk_at "c"
      rw [crpS0, c1_results]
    · rintro fr S ⟨rfl, rfl⟩
      refine seq_sat (fun fr S => fr = [some (.obj S0.length), some (.d (planD P)), some (.d (robD R)), none, none, none, none, none, none] ∧ S = S0 ++ [.ins "Course" (cf3 S0.length P), .lst [], .lst []]) ?_ ?_
      · walk_at "c"
        rw [List.append_assoc]
        simp only [List.cons_append, List.nil_append]
        rw [ins_get crt0]
        walk_at "c"
        rw [crtS0, c2_legs]
      · rintro fr S ⟨rfl, rfl⟩
        refine seq_sat (fun fr S => (∃ x3 x4 x5 x7 x8, fr = [some (.obj S0.length), some (.d (planD P)), some (.d (robD R)), x3, x4, x5, none, x7, x8]) ∧ S = crsT S0 P P R) ?_ ?_
        · walk_at "g"
          rw [show planD P = .tuple (P.map entD) from rfl]
          walk_at "g"
          rw [show (P.map entD).map SV.d = P.map fun e => SV.d (entD e) by rw [List.map_map]; rfl]
          refine ssat_each (enc := fun e => SV.d (entD e)) (fun done fr S => (∃ x3 x4 x5 x7 x8, fr = [some (.obj S0.length), some (.d (.tuple (P.map entD))), some (.d (robD R)), x3, x4, x5, none, x7, x8]) ∧ S = crsT S0 P done R) ⟨⟨_, _, _, _, _, rfl⟩, rfl⟩ (fun done y more e fr S ⟨⟨x3, x4, x5, x7, x8, e1⟩, e2⟩ => ?_) fun fr S ⟨⟨x3, x4, x5, x7, x8, e1⟩, e2⟩ => ⟨⟨x3, x4, x5, x7, x8, e1⟩, e2⟩
          subst e1 e2
          obtain ⟨s, ns⟩ := y
          have hd : PlanWf (done ++ [(s, ns)]) := PlanWf.left (Q := more) (by rw [List.append_assoc]; rw [e] at h; exact h)
          obtain ⟨sn, n2, nl⟩ := hd.last
          have eu : unf (done ++ [(s, ns)]) = unf done ++ [.mk s (ns.map fun n => (unf done).getD n dM)] := unf_snoc done (s, ns)
          generalize hbs : ns.map (fun n => (unf done).getD n dM) = bs at eu
          have w : (Maze.mk s bs).Wf := unf_wf hd _ (by rw [eu]; simp)
          have g := resBs_g hR w
          have dl : done.length < P.length := by rw [e]; simp
          refine ⟨_, rfl, ?_⟩
          walk_at "g"
          simp only [eLc]
          walk_at "g"
          have at0 : (crsT S0 P done R)[S0.length]? = some (.ins "Course" (cf3 S0.length P)) := crt0
          have at1 : (crsT S0 P done R)[S0.length + 1]? = some (.lst ((unf done).map fun m => .d (resD (resB R m)))) := crt1
          rw [comp_map (enc := fun n : Nat => PyData.int (n : Nat)) (ys := ns) (f := fun n => resD (resB R ((unf done).getD n dM))) (fun n hn => ⟨_, rfl, sat_eq (by
            have hnl : n < (unf done).length := by rw [unf_len]; exact nl n hn
            simp only [wipeF]
            walk_at "c"
            rw [fld_get at0 c3_results]
            walk_at "c"
            rw [ix_obj (x := .d (resD (resB R ((unf done).getD n dM)))) at1 (by
              rw [List.getElem?_map, List.getElem?_eq_getElem hnl, List.getD_eq_getElem?_getD, List.getElem?_eq_getElem hnl]
              rfl)]
            walk_at "c")⟩) (by rw [sz]; simp at n2 ⊢; omega)]
          walk_at "g"
          have eb : ns.map (fun n => resD (resB R ((unf done).getD n dM))) = (resBs R bs).map resD := by
            rw [resBs_map, ← hbs, List.map_map, List.map_map]
            rfl
          rw [eb]
          refine appO_sat (v := .d (resD (resB R (.mk s bs)))) ?_ at1 ?_ (by rw [List.length_map, unf_len, sz]; omega) ?_
          · exact eFld_ok rfl at0 c3_results
          · refine sat_eq ?_
            walk_at "g"
            rw [room_results_eq hR g (sn.tx.mono (by decide))]
            walk_at "g"
            rw [PD.resB]
          have at0' : ((crsT S0 P done R).set (S0.length + 1) (.lst (((unf done).map fun m => SV.d (resD (resB R m))) ++ [.d (resD (resB R (.mk s bs)))])))= S0 ++ [.ins "Course" (cf3 S0.length P), .lst (((unf done).map fun m => SV.d (resD (resB R m))) ++ [.d (resD (resB R (.mk s bs)))]), .lst ((unf done).map fun m => .d (legsM R m))] := crtS1
          rw [at0']
          show (sAppO _ _ _ _).sat _
          refine appO_sat (v := .d (legsM R (.mk s bs))) ?_ crt2 ?_ (by rw [List.length_map, unf_len, sz]; omega) ?_
          · exact eFld_ok rfl crt0 c3_legs
          · refine sat_eq ?_
            simp only [eLc]
            walk_at "g"
            rw [show robD R = .tuple (R.map stD) from rfl]
            walk_at "g"
            rw [List.length_map, rng1_ok (by omega) (by omega)]
            walk_at "g"
            rw [rng_map, comp_map (enc := fun i : Nat => PyData.int (i : Nat)) (f := fun i : Nat => legsD (legs R s (resBs R bs) (i : Nat))) (fun i hi => ⟨_, rfl, sat_eq (by
              have hi := List.mem_range.mp hi
              simp only [wipeF]
              walk_at "g"
              rw [show PyData.tuple (R.map stD) = robD R from rfl, legs_of_eq hR g (sn.tx.mono (by decide)) (by omega) (by omega)]
              walk_at "g")⟩) (by rw [sz]; simp; omega)]
            walk_at "g"
            try rfl
          refine ⟨⟨_, _, _, _, _, rfl⟩, ?_⟩
          rw [crtS2]
          unfold crsT
          rw [eu, List.map_append, List.map_append]
          rfl
        · rintro fr S ⟨⟨x3, x4, x5, x7, x8, rfl⟩, rfl⟩
          refine seq_sat (fun fr S => fr = [some (.obj S0.length), some (.d (planD P)), some (.d (robD R)), x3, x4, x5, none, x7, x8] ∧ S = crsS S0 P R 0) ?_ ?_
          · walk_at "c"
            have l3 : (crsT S0 P P R).length = S0.length + 3 := by simp [crsT]
            rw [l3]
            have e0 : (crsT S0 P P R ++ [.lst []]) = S0 ++ [.ins "Course" (cf3 S0.length P), .lst ((unf P).map fun m => .d (resD (resB R m))), .lst ((unf P).map fun m => .d (legsM R m)), .lst []] := by
              unfold crsT
              rw [List.append_assoc]
              rfl
            rw [e0, ins_get crs0]
            walk_at "c"
            rw [crsS0, c3_steps]
            exact ⟨by simp [cf3], by unfold crsS; rfl⟩
          · rintro fr S ⟨rfl, rfl⟩
            walk_at "g"
            rw [show planD P = .tuple (P.map entD) from rfl]
            walk_at "g"
            rw [List.length_map, rng1_ok (by omega) (by omega)]
            walk_at "g"
            refine ssat_rng (fun j fr S => (∃ x6 x8, fr = [some (.obj S0.length), some (.d (planD P)), some (.d (robD R)), x3, x4, x5, x6, x7, x8]) ∧ S = crsS S0 P R j) ⟨⟨_, _, rfl⟩, rfl⟩ (fun j fr S hj ⟨⟨x6, x8, e1⟩, e2⟩ => ?_) fun fr S ⟨⟨x6, x8, e1⟩, e2⟩ => ?_
            · subst e1 e2
              have hj : j < P.length := by omega
              refine ⟨_, rfl, ?_⟩
              generalize hq : P[j]'hj = en
              obtain ⟨s, ns⟩ := en
              have q : P[j]? = some (s, ns) := by rw [List.getElem?_eq_getElem hj, hq]
              have hm := unf_ent h q
              have jl : j < (unf P).length := by rw [unf_len]; exact hj
              rw [m_Course___init___10_E]
              refine appO_sat (v := .d (stepsM R (.mk s (bsOf P ns)))) ?_ crs_at3 ?_ (by rw [List.length_map, List.length_take, unf_len, sz]; omega) ?_
              · exact eFld_ok rfl crs_at0 cf_steps
              · refine sat_eq ?_
                simp only [eLc]
                walk_at "g"
                rw [show robD R = .tuple (R.map stD) from rfl]
                walk_at "g"
                rw [List.length_map, rng1_ok (by omega) (by omega)]
                walk_at "g"
                rw [rng_map, comp_map (enc := fun i : Nat => PyData.int (i : Nat)) (f := fun i : Nat => stepD ((stB R (.mk s (bsOf P ns))).getD i none)) (fun i hi => ⟨_, rfl, sat_eq (by
                  have hi := List.mem_range.mp hi
                  simp only [wipeF]
                  walk_at "c"
                  rw [ins_get crs_at0]
                  walk_at "c"
                  rw [cf_steps_in]
                  simp only [Option.isNone_none, if_true]
                  walk_at "c"
                  rw [steps_in_eq hR h q (Nat.le_refl _) (by omega) (by omega)]
                  walk_at "c"
                  rw [Int.toNat_natCast])⟩) (by rw [sz]; simp; omega)]
                walk_at "g"
                have := map_getD_all stepD (stB R (.mk s (bsOf P ns)))
                rw [stB_len] at this
                rw [stepsM, ← this]
                rfl
              · refine ⟨⟨_, _, rfl⟩, ?_⟩
                unfold crsS
                rw [crsS3, List.take_succ_eq_append_getElem jl, List.map_append]
                have : (unf P)[j] = .mk s (bsOf P ns) := by
                  rw [List.getElem?_eq_getElem jl] at hm
                  exact Option.some.inj hm
                rw [this]
                rfl
            · subst e1 e2
              walk_at "g"
              rw [show ((P.length : Nat) : Int).toNat = P.length by omega]
end
end Wk
namespace Wk
open PySem PySem.Spec PyProof.Rows L2 PD
def m_Course_last_path_1 : SM := sPar [1, 2, 3] 5 (aC (e2 subV (eA1 lenV (eFld "Course" "plan" (eV 0))) (eC (.int 1))) (aC (eC (.int 0)) (aC (eA mkTup (aN)) (aN))))
def m_Course_last_path_2 : SM := sAsg (gSet 4) (fE (e2 ixV (e2 ixV (e2 ixV (e2 ixV (eFld "Course" "legs" (eV 0)) (eV 1)) (eV 2)) (eC (.int 0))) (e1 negV (eC (.int 1)))))
def m_Course_last_path_4 : SM := sAsg (gSet 3) (fE (e2 addV (eV 3) (eA mkTup (aC (e2 addV (e2 ixV (eV 4) (eC (.int 3))) (eC (.int 1))) (aN)))))
def m_Course_last_path_5 : SM := sPar [1, 2] 5 (aC (eMeth "Course" "inner" 2 F_Course_inner (eV 0) (aC (eV 1) (aC (eV 4) (aN)))) (aC (e2 ixV (eV 4) (eC (.int 4))) (aN)))
def m_Course_last_path_6 : SM := sAsg (gSet 4) (fE (e2 ixV (e2 ixV (e2 ixV (e2 ixV (eFld "Course" "legs" (eV 0)) (eV 1)) (eV 2)) (eC (.int 0))) (e1 negV (eC (.int 1)))))
def m_Course_last_path_3 : SM := sWhile (bB (e2 (isV true) (e2 ixV (eV 4) (eC (.int 3))) (eC .none))) (sSeq m_Course_last_path_4 (sSeq m_Course_last_path_5 m_Course_last_path_6))
def m_Course_last_path_7 : SM := sRet (eV 3)
def m_Course_last_path : SM := sSeq m_Course_last_path_1 (sSeq m_Course_last_path_2 (sSeq m_Course_last_path_3 m_Course_last_path_7))
theorem m_Course_last_path_1_E {fr : Fr} {S : Store} : m_Course_last_path_1 fr S = (sPar [1, 2, 3] 5 (aC (e2 subV (eA1 lenV (eFld "Course" "plan" (eV 0))) (eC (.int 1))) (aC (eC (.int 0)) (aC (eA mkTup (aN)) (aN))))) fr S := rfl
theorem m_Course_last_path_2_E {fr : Fr} {S : Store} : m_Course_last_path_2 fr S = (sAsg (gSet 4) (fE (e2 ixV (e2 ixV (e2 ixV (e2 ixV (eFld "Course" "legs" (eV 0)) (eV 1)) (eV 2)) (eC (.int 0))) (e1 negV (eC (.int 1)))))) fr S := rfl
theorem m_Course_last_path_4_E {fr : Fr} {S : Store} : m_Course_last_path_4 fr S = (sAsg (gSet 3) (fE (e2 addV (eV 3) (eA mkTup (aC (e2 addV (e2 ixV (eV 4) (eC (.int 3))) (eC (.int 1))) (aN)))))) fr S := rfl
theorem m_Course_last_path_5_E {fr : Fr} {S : Store} : m_Course_last_path_5 fr S = (sPar [1, 2] 5 (aC (eMeth "Course" "inner" 2 F_Course_inner (eV 0) (aC (eV 1) (aC (eV 4) (aN)))) (aC (e2 ixV (eV 4) (eC (.int 4))) (aN)))) fr S := rfl
theorem m_Course_last_path_6_E {fr : Fr} {S : Store} : m_Course_last_path_6 fr S = (sAsg (gSet 4) (fE (e2 ixV (e2 ixV (e2 ixV (e2 ixV (eFld "Course" "legs" (eV 0)) (eV 1)) (eV 2)) (eC (.int 0))) (e1 negV (eC (.int 1)))))) fr S := rfl
theorem m_Course_last_path_3_E {fr : Fr} {S : Store} : m_Course_last_path_3 fr S = (sWhile (bB (e2 (isV true) (e2 ixV (eV 4) (eC (.int 3))) (eC .none))) (sSeq m_Course_last_path_4 (sSeq m_Course_last_path_5 m_Course_last_path_6))) fr S := rfl
theorem m_Course_last_path_7_E {fr : Fr} {S : Store} : m_Course_last_path_7 fr S = (sRet (eV 3)) fr S := rfl
theorem m_Course_last_path_E {fr : Fr} {S : Store} : m_Course_last_path fr S = (sSeq m_Course_last_path_1 (sSeq m_Course_last_path_2 (sSeq m_Course_last_path_3 m_Course_last_path_7))) fr S := rfl
def F_Course_last_path : FN := bodyF 5 m_Course_last_path
local macro_rules
  | `(tactic| walk_at "go") => `(tactic| simp only [sSeq, ssat_next, ssat_toS, ssat_nx, ssat_rt, ssat_bk, ssat_ct, ssat_bad, ssat_ite, if_false_right, sat_ok, sat_bad, sat_exc, sat_bind, sat_ite, sPutO, sPutI, sPutD, eD, ownD, sAsg, fE, sIf, sNx, sRet, sDrop, sOwn, sApp, sExt, sPar, sFor, e1, e2, eV, eC, eA, eA1, aC, aN, eSl, oN, oS, eP, eM1, eIf, eCall, eChain, eJ, jC, jN, bB, bTr, bAnd, bOr, bNot, eAnd, eOr, eNot, bYes, iSeq, iA, ofG, ofO, fmtV, strV, tupleV, listV, iaddV, PD.eq_int, PD.eq_str, eq_self, gSet, ggNil, ggCons, ggTup, mkTup, mkLst, mkObj, asDs, asD, ownL,
      List.map_cons, List.map_nil, List.cons_append, List.nil_append, List.length_cons, List.length_nil, List.length_set, List.replicate, List.getElem?_cons_succ, List.getElem?_cons_zero, List.getElem?_nil, List.set_cons_succ, List.set_cons_zero, List.all_cons, List.all_nil, setAll, Option.map_some, Option.map_none, Option.bind_some, Option.bind_none,
      ixV, addV, subV, mulV, modV, divV, powV, negV, lenV, intV, absI, enumV, iterV, PD.slV, boolV, truthV, ltD, revA, ltV, gtV, leV, geV, isV, isNone, L2.atI, ixN, Bool.false_xor, Bool.true_xor, Bool.not_true, Bool.not_false, Bool.and_true, Bool.true_and, Bool.and_false, Bool.false_and, decide_true, decide_false, decide_eq_true_eq, Bool.and_eq_true, if_true, if_false, reduceIte, Bool.false_eq_true, Str.empty_append, List.length_append, ite_true, ite_false, true_and, and_true, Int.cast_ofNat_Int, Nat.reduceAdd, Nat.reduceSub, Nat.reduceLT, Int.reduceLT, Int.reduceLE, Int.reduceToNat, Nat.lt_add_one])
local macro_rules
  | `(tactic| walk_at "g0") => `(tactic| simp only [sSeq, ssat_next, ssat_toS, ssat_nx, ssat_rt, ssat_bk, ssat_ct, ssat_bad, ssat_ite, if_false_right, sat_ok, sat_bad, sat_exc, sat_bind, sat_ite, sPutO, sPutI, sPutD, eD, ownD, sAsg, fE, sIf, sNx, sRet, sDrop, sOwn, sApp, sExt, sPar, sFor, e1, e2, eV, eC, eA, eA1, aC, aN, eSl, oN, oS, eP, eM1, eIf, eCall, eChain, eJ, jC, jN, bB, bTr, bAnd, bOr, bNot, eAnd, eOr, eNot, bYes, iSeq, iA, ofG, ofO, fmtV, strV, tupleV, listV, iaddV, PD.eq_int, PD.eq_str, eq_self, gSet, ggNil, ggCons, ggTup, mkTup, mkLst, mkObj, asDs, asD, ownL,
      List.map_cons, List.map_nil, List.cons_append, List.nil_append, List.length_cons, List.length_nil, List.length_set, List.replicate, List.getElem?_cons_succ, List.getElem?_cons_zero, List.getElem?_nil, List.set_cons_succ, List.set_cons_zero, List.all_cons, List.all_nil, setAll, ixT0, ixT1, ixT2, ixL0, ixL1, ixL2, Option.map_some, Option.map_none, Option.bind_some, Option.bind_none,
      addV, subV, mulV, modV, divV, powV, negV, lenV, intV, absI, enumV, iterV, PD.slV, boolV, truthV, ltD, revA, ltV, gtV, leV, geV, isV, isNone, Bool.false_xor, Bool.true_xor, Bool.not_true, Bool.not_false, Bool.and_true, Bool.true_and, Bool.and_false, Bool.false_and, decide_true, decide_false, decide_eq_true_eq, Bool.and_eq_true, if_true, if_false, reduceIte, Bool.false_eq_true, Str.empty_append, List.length_append, ite_true, ite_false, true_and, and_true, Int.cast_ofNat_Int, Nat.reduceAdd, Nat.reduceSub, Nat.reduceLT, Int.reduceLT, Int.reduceLE, Int.reduceToNat, Nat.lt_add_one])
local macro_rules
  | `(tactic| walk_at "g1") => `(tactic| simp only [sSeq, ssat_next, ssat_toS, ssat_nx, ssat_rt, ssat_bk, ssat_ct, ssat_bad, ssat_ite, if_false_right, sat_ok, sat_bad, sat_exc, sat_bind, sat_ite, sPutO, sPutI, sPutD, eD, ownD, sAsg, fE, sIf, sNx, sRet, sDrop, sOwn, sApp, sExt, sPar, sFor, e1, e2, eV, eC, eA, eA1, aC, aN, eSl, oN, oS, eP, eM1, eIf, eCall, eChain, eJ, jC, jN, bB, bTr, bAnd, bOr, bNot, eAnd, eOr, eNot, bYes, iSeq, iA, ofG, ofO, fmtV, strV, tupleV, listV, iaddV, PD.eq_int, PD.eq_str, eq_self, gSet, ggNil, ggCons, ggTup, mkTup, mkLst, mkObj, asDs, asD, ownL,
      List.map_cons, List.map_nil, List.cons_append, List.nil_append, List.length_cons, List.length_nil, List.length_set, List.replicate, List.getElem?_cons_succ, List.getElem?_cons_zero, List.getElem?_nil, List.set_cons_succ, List.set_cons_zero, List.all_cons, List.all_nil, setAll, ixT0, ixT1, ixT2, ixL0, ixL1, ixL2, Option.map_some, Option.map_none, Option.bind_some, Option.bind_none,
      addV, subV, mulV, modV, divV, powV, negV, lenV, intV, absI, enumV, iterV, PD.slV, boolV, truthV, ltD, revA, ltV, gtV, leV, geV, isV, isNone, Bool.false_xor, Bool.true_xor, Bool.not_true, Bool.not_false, Bool.and_true, Bool.true_and, Bool.and_false, Bool.false_and, decide_true, decide_false, decide_eq_true_eq, Bool.and_eq_true, if_true, if_false, reduceIte, Bool.false_eq_true, Str.empty_append, List.length_append, ite_true, ite_false, true_and, and_true, Int.cast_ofNat_Int, Nat.reduceAdd, Nat.reduceSub, Nat.reduceLT, Int.reduceLT, Int.reduceSub, Int.reduceAdd, Int.reduceNeg, Int.reduceLE, Int.reduceToNat, Nat.lt_add_one])
local macro_rules
  | `(tactic| walk_at "g") => `(tactic| simp only [sSeq, ssat_next, ssat_toS, ssat_nx, ssat_rt, ssat_bk, ssat_ct, ssat_bad, ssat_ite, if_false_right, sat_ok, sat_bad, sat_exc, sat_bind, sat_ite, sPutO, sPutI, sPutD, sAug, eD, ownD, sAsg, fE, sIf, sNx, sRet, sDrop, sOwn, sApp, sExt, sPar, sFor, e1, e2, eV, eC, eA, eA1, aC, aN, eSl, oN, oS, eP, eM1, eIf, eCall, eChain, eJ, jC, jN, bB, bTr, bAnd, bOr, bNot, eAnd, eOr, eNot, bYes, iSeq, iA, ofG, ofO, fmtV, strV, tupleV, listV, iaddV, PD.eq_int, PD.eq_str, eq_self, gSet, ggNil, ggCons, ggTup, mkTup, mkLst, mkObj, asDs, asD, ownL,
      List.map_cons, List.map_nil, List.cons_append, List.nil_append, List.length_cons, List.length_nil, List.length_set, List.replicate, List.getElem?_cons_succ, List.getElem?_cons_zero, List.getElem?_nil, List.set_cons_succ, List.set_cons_zero, List.all_cons, List.all_nil, setAll, ixT0, ixT1, ixT2, ixL0, ixL1, ixL2, Option.map_some, Option.map_none, Option.bind_some, Option.bind_none,
      addV, subV, mulW, mulV, modV, divV, powV, negV, lenV, intV, absI, enumV, iterV, PD.slV, boolV, truthV, ltD, revA, ltV, gtV, leV, geV, isV, isNone, Bool.false_xor, Bool.true_xor, Bool.not_true, Bool.not_false, Bool.and_true, Bool.true_and, Bool.and_false, Bool.false_and, decide_true, decide_false, decide_eq_true_eq, Bool.and_eq_true, if_true, if_false, reduceIte, Bool.false_eq_true, Str.empty_append, List.length_append, ite_true, ite_false, true_and, and_true, Int.cast_ofNat_Int, Nat.reduceAdd, Nat.reduceSub, Nat.reduceLT, Int.reduceLT, Int.reduceSub, Int.reduceAdd, Int.reduceNeg, Int.reduceLE, Int.reduceToNat, Nat.lt_add_one, beq_iff_eq, sizeLine_eq, Nat.reduceLeDiff, inV_tup, inV_lst, eqv_str, eqv_int, eqV_nilT, cutD_tail, false_and, and_false, or_true, true_or, or_false, false_or, ixT3, Bool.true_eq_false, Bool.or_eq_false_iff, decide_eq_false_iff_not, Int.not_le, Int.not_lt, beq_self_eq_true, Int.reduceBEq, Bool.not_eq_eq_eq_not, beq_eq_false_iff_ne, ne_eq, not_true_eq_false, not_false_eq_true, List.isEmpty_cons, List.isEmpty_nil, List.any_cons, List.any_nil, Bool.or_false, Bool.or_eq_true, isaV, PyData.isInt, PyData.isStr, PyData.isBool, PyData.isTuple, PyData.isList, PyData.isDict, m_Course_last_path_1_E, m_Course_last_path_2_E, m_Course_last_path_4_E, m_Course_last_path_5_E, m_Course_last_path_6_E, m_Course_last_path_3_E, m_Course_last_path_7_E, m_Course_last_path_E])
local macro_rules
  | `(tactic| walk_at "gt") => `(tactic| try walk_at "go")
local macro_rules
  | `(tactic| walk_at "gq") => `(tactic| try walk_at "g0")
local macro_rules
  | `(tactic| walk_at "len") => `(tactic| (simp only [Str.length_append, PySem.ofString_length, len_nil, sizeLine_eq] at *; omega))
local macro_rules
  | `(tactic| walk_at "fin") => `(tactic| ((repeat' apply And.intro) <;> first | assumption | exact True.intro | walk_at "len" | rfl))
local macro_rules
  | `(tactic| walk_at "start") => `(tactic| (rw [sat_body]; simp only [List.map_cons, List.map_nil, List.cons_append, List.nil_append, List.length_cons, List.length_nil, Nat.reduceAdd, Nat.reduceSub, List.replicate]))
local macro_rules
  | `(tactic| walk_at "wd") => `(tactic| first | assumption | exact Wd.none | exact Wd.bool | exact Wd.small (by decide) (by decide) | exact Wd.lit (by decide) | exact Wd.dict0 | exact Wd.tup Wds.nil | exact Wd.lst Wds.nil | (refine Wd.t1 (k := 2) (a := 990) ?_ (by decide) <;> walk_at "wd") | (refine Wd.t2 (k := 2) (a := 990) (b := 990) ?_ ?_ (by decide) <;> walk_at "wd") | (refine Wd.t3 (k := 2) (a := 990) (b := 990) (c := 990) ?_ ?_ ?_ (by decide) <;> walk_at "wd") | (refine Wd.t4 (k := 2) (a := 990) (b := 990) (c := 990) (e := 990) ?_ ?_ ?_ ?_ (by decide) <;> walk_at "wd") | (refine Wd.t1 (k := 1) (a := 240) ?_ (by decide) <;> walk_at "wd") | (refine Wd.t2 (k := 1) (a := 240) (b := 240) ?_ ?_ (by decide) <;> walk_at "wd") | (refine Wd.t3 (k := 1) (a := 240) (b := 240) (c := 240) ?_ ?_ ?_ (by decide) <;> walk_at "wd") | (refine Wd.t4 (k := 1) (a := 240) (b := 240) (c := 240) (e := 240) ?_ ?_ ?_ ?_ (by decide) <;> walk_at "wd") | (refine Wd.t1 (k := 0) (a := 55) ?_ (by decide) <;> walk_at "wd") | (refine Wd.t2 (k := 0) (a := 55) (b := 55) ?_ ?_ (by decide) <;> walk_at "wd") | (refine Wd.t3 (k := 0) (a := 55) (b := 55) (c := 55) ?_ ?_ ?_ (by decide) <;> walk_at "wd") | (refine Wd.t4 (k := 0) (a := 55) (b := 55) (c := 55) (e := 55) ?_ ?_ ?_ ?_ (by decide) <;> walk_at "wd"))
local macro_rules
  | `(tactic| walk_at "c") => `(tactic| simp only [eFld, sFldS, sAppO, eMeth, eMake, sSeq, ssat_next, ssat_toS, ssat_nx, ssat_rt, ssat_bk, ssat_ct, ssat_bad, ssat_ite, if_false_right, sat_ok, sat_bad, sat_exc, sat_bind, sat_ite, sPutO, sPutI, sPutD, sAug, eD, ownD, sAsg, fE, sIf, sNx, sRet, sDrop, sOwn, sApp, sExt, sPar, sFor, e1, e2, eV, eC, eA, eA1, aC, aN, eSl, oN, oS, eP, eM1, eIf, eCall, eChain, eJ, jC, jN, bB, bTr, bAnd, bOr, bNot, eAnd, eOr, eNot, bYes, iSeq, iA, ofG, ofO, fmtV, strV, tupleV, listV, iaddV, PD.eq_int, PD.eq_str, eq_self, gSet, ggNil, ggCons, ggTup, mkTup, mkLst, mkObj, asDs, asD, ownL,
      List.map_cons, List.map_nil, List.cons_append, List.nil_append, List.length_cons, List.length_nil, List.length_set, List.replicate, List.getElem?_cons_succ, List.getElem?_cons_zero, List.getElem?_nil, List.set_cons_succ, List.set_cons_zero, List.all_cons, List.all_nil, setAll, ixT0, ixT1, ixT2, ixL0, ixL1, ixL2, Option.map_some, Option.map_none, Option.bind_some, Option.bind_none,
      addV, subV, mulW, mulV, modV, divV, powV, negV, lenV, intV, absI, enumV, iterV, PD.slV, boolV, truthV, ltD, revA, ltV, gtV, leV, geV, isV, isNone, Bool.false_xor, Bool.true_xor, Bool.not_true, Bool.not_false, Bool.and_true, Bool.true_and, Bool.and_false, Bool.false_and, decide_true, decide_false, decide_eq_true_eq, Bool.and_eq_true, if_true, if_false, reduceIte, Bool.false_eq_true, Str.empty_append, List.length_append, ite_true, ite_false, true_and, and_true, Int.cast_ofNat_Int, Nat.reduceAdd, Nat.reduceSub, Nat.reduceLT, Int.reduceLT, Int.reduceSub, Int.reduceAdd, Int.reduceNeg, Int.reduceLE, Int.reduceToNat, Nat.lt_add_one, beq_iff_eq, sizeLine_eq, Nat.reduceLeDiff, inV_tup, inV_lst, eqv_str, eqv_int, eqV_nilT, cutD_tail, false_and, and_false, or_true, true_or, or_false, false_or, ixT3, Bool.true_eq_false, Bool.or_eq_false_iff, decide_eq_false_iff_not, Int.not_le, Int.not_lt, beq_self_eq_true, Int.reduceBEq, Bool.not_eq_eq_eq_not, beq_eq_false_iff_ne, ne_eq, not_true_eq_false, not_false_eq_true, List.isEmpty_cons, List.isEmpty_nil, List.any_cons, List.any_nil, Bool.or_false, Bool.or_eq_true, isaV, PyData.isInt, PyData.isStr, PyData.isBool, PyData.isTuple, PyData.isList, PyData.isDict, m_Course_last_path_1_E, m_Course_last_path_2_E, m_Course_last_path_4_E, m_Course_last_path_5_E, m_Course_last_path_6_E, m_Course_last_path_3_E, m_Course_last_path_7_E, m_Course_last_path_E])
section
variable {S0 : Store} {P : Plan} {R : Rob} {k : Nat}
theorem lpB_get {s : Str} {bs : List Maze} {st : Int} (h0 : 0 ≤ st) (h1 : st < R.length) : (lpB R (.mk s bs)).getD st.toNat [] = lastOf (lpBs R bs) (legs R s (resBs R bs) st).1 := by
  rw [lpB, range_get h0 h1, show ((st.toNat : Nat) : Int) = st by omega]
theorem last_leg (hR : RobWf R) (h : PlanWf P) {e : Nat} {s : Str} {ns : List Nat} {st : Int} {new : List Leg} {l : Leg} {fr : Fr} (q : P[e]? = some (s, ns)) (h0 : 0 ≤ st) (h1 : st < R.length) (hl : (legs R s (resBs R (bsOf P ns)) st).1 = new ++ [l])
    (f0 : fr[0]? = some (some (.obj S0.length))) (f1 : fr[1]? = some (some (.d (.int (e : Nat))))) (f2 : fr[2]? = some (some (.d (.int st)))) :
    (e2 ixV (e2 ixV (e2 ixV (e2 ixV (eFld (Str.ofString "Course") (Str.ofString "legs") (eV 0)) (eV 1)) (eV 2)) (eC (.int 0))) (e1 negV (eC (.int 1)))) fr (crsS S0 P R k) = .ok (.d l.d) (crsS S0 P R k) := by
  have hm := unf_ent h q
  refine sat_eq ?_
  simp only [e2, eFld, e1, eC, eV, f0, f1, f2, sat_bind, sat_ok]
  rw [fld_get crs_at0 cf_legs]
  walk_at "g"
  rw [ix_obj (x := .d (legsM R (.mk s (bsOf P ns)))) crs_at2 (by rw [List.getElem?_map, hm]; rfl)]
  walk_at "g"
  rw [legsM, ix_getL h0 (by simpa using h1)]
  simp only [List.getElem_map, List.getElem_range, show ((st.toNat : Nat) : Int) = st by omega]
  simp only [legsD, hl, List.map_append, List.map_cons, List.map_nil]
  walk_at "g"
  rw [ix_last]
  walk_at "g"
theorem last_path_eq (hR : RobWf R) (h : PlanWf P) (hl : P.length ≤ 1000) {P' : Plan} {s0 : Str} {ns0 : List Nat} (ep : P = P' ++ [(s0, ns0)]) (hv : (resB R (.mk s0 (bsOf P ns0))).getD 0 default ≠ .ever) :
    F_Course_last_path [.obj S0.length] (crsS S0 P R k) = .ok (.d (pk ((lpB R (.mk s0 (bsOf P ns0))).getD 0 []))) (crsS S0 P R k) := by
  have sz : sizeLine = 16777216 := sizeLine_eq
  have R1 := hR.one
  have q0 : P[P'.length]? = some (s0, ns0) := by rw [ep]; simp
  have lp : P.length = P'.length + 1 := by rw [ep]; simp
  have gd : ∀ {e : Nat} {s : Str} {ns : List Nat}, P[e]? = some (s, ns) → GWf R.length (resBs R (bsOf P ns)) ∧ (Maze.mk s (bsOf P ns)).Wf ∧ (bsOf P ns).length = ns.length := fun {e s ns} q => by
    have w : (Maze.mk s (bsOf P ns)).Wf := unf_wf h _ (List.mem_of_getElem? (unf_ent h q))
    exact ⟨resBs_g hR w, w, by rw [bsOf, List.length_map]⟩
  have rg : ∀ {s : Str} {bs : List Maze} {st : Int}, 0 ≤ st → st < R.length → (PD.resB R (.mk s bs)).getD st.toNat default = (legs R s (resBs R bs) st).2.1 := fun h0 h1 => by rw [PD.resB, roomR_get R _ _ h0 h1]
  have hv0 : (legs R s0 (resBs R (bsOf P ns0)) 0).2.1 ≠ .ever := by rw [← rg (by decide) (by omega)]; exact hv
  obtain ⟨new0, l0, el0, fl0⟩ := (legs_in (s := s0) hR (gd q0).1 (st := 0) (by decide) (by omega)).2 hv0
  refine sat_eq ?_
  unfold F_Course_last_path
  walk_at "start"
  rw [m_Course_last_path_E]
  refine seq_sat (fun fr S => fr = [some (.obj S0.length), some (.d (.int (P'.length : Nat))), some (.d (.int 0)), some (.d (.tuple [])), none] ∧ S = crsS S0 P R k) ?_ ?_
  · walk_at "c"
    rw [fld_get crs_at0 cf_plan]
    walk_at "c"
    rw [show planD P = .tuple (P.map entD) from rfl]
    walk_at "c"
    rw [List.length_map, lp, show ((P'.length + 1 : Nat) : Int) - 1 = (P'.length : Nat) by omega]
  · rintro fr S ⟨rfl, rfl⟩
    refine seq_sat (fun fr S => fr = [some (.obj S0.length), some (.d (.int (P'.length : Nat))), some (.d (.int 0)), some (.d (.tuple [])), some (.d l0.d)] ∧ S = crsS S0 P R k) ?_ ?_
    · rw [m_Course_last_path_2_E]
      have hq := last_leg (k := k) (S0 := S0) (st := 0) (fr := [some (.obj S0.length), some (.d (.int (P'.length : Nat))), some (.d (.int 0)), some (.d (.tuple [])), none]) hR h q0 (by decide) (by omega) el0 rfl rfl rfl
      simp only [sAsg, fE, hq]
      walk_at "g"
    · rintro fr S ⟨rfl, rfl⟩
      refine seq_sat (fun fr S => (∃ x1 x2 x4, fr = [some (.obj S0.length), x1, x2, some (.d (pk ((lpB R (.mk s0 (bsOf P ns0))).getD 0 []))), x4]) ∧ S = crsS S0 P R k) ?_ ?_
      · rw [m_Course_last_path_3_E]
        simp only [sWhile]
        refine ssat_while (fun j fr S => S = crsS S0 P R k ∧ ∃ (e : Nat) (st : Int) (p : List Int) (s : Str) (ns : List Nat) (new : List Leg) (l : Leg), fr = [some (.obj S0.length), some (.d (.int (e : Nat))), some (.d (.int st)), some (.d (pk p)), some (.d l.d)] ∧ e < j ∧ p.length + e ≤ P'.length ∧
          P[e]? = some (s, ns) ∧ 0 ≤ st ∧ st < R.length ∧ (legs R s (resBs R (bsOf P ns)) st).2.1 ≠ .ever ∧ (legs R s (resBs R (bsOf P ns)) st).1 = new ++ [l] ∧ (∀ i b, l.bran = some i → l.next = some b → ((resBs R (bsOf P ns)).getD i.toNat []).getD b.toNat default = (legs R s (resBs R (bsOf P ns)) st).2.1) ∧
          p ++ (lpB R (.mk s (bsOf P ns))).getD st.toNat [] = (lpB R (.mk s0 (bsOf P ns0))).getD 0 []) ?_ (P'.length + 1) fuel (by unfold fuel; omega) ⟨rfl, P'.length, 0, [], s0, ns0, new0, l0, rfl, by omega, by simp, q0, by decide, by omega, hv0, el0, fl0, by simp⟩
        rintro j fr S ⟨rfl, e, st, p, s, ns, new, l, rfl, ej, pe, q, h0, h1, hv, el, fl, tg⟩
        obtain ⟨g, w, lb⟩ := gd q
        have li := (legs_in (s := s) hR g h0 h1).1 l (by rw [el]; simp)
        rw [lpB_get h0 h1, el] at tg
        rcases li.ok with hb | ⟨i, b, hb, hn, i0, i1, b0, b1⟩
        · walk_at "c"
          simp only [Leg.d, hb, optI]
          walk_at "c"
          simp only [lastOf, List.getLast?_append, List.getLast?_singleton, Option.some_or, hb, List.append_nil] at tg
          rw [tg]
          exact ⟨_, _, _, rfl⟩
        · have lG : (resBs R (bsOf P ns)).length = ns.length := by rw [resBs_map, List.length_map, lb]
          have il : i.toNat < ns.length := by omega
          have nj := (h.at_ e (s, ns) q).2.2 _ (List.getElem_mem il)
          have gj : ns.getD i.toNat 0 = ns[i.toNat] := by rw [List.getD_eq_getElem?_getD, List.getElem?_eq_getElem il]; rfl
          have he := (List.getElem?_eq_some_iff.mp q).1
          have nj : ns[i.toNat] < e := nj
          generalize hjd : ns[i.toNat] = n1 at gj nj
          have n1l : n1 < P.length := by omega
          generalize hen : P[n1]'n1l = en
          obtain ⟨s1, ns1⟩ := en
          have q1 : P[n1]? = some (s1, ns1) := by rw [List.getElem?_eq_getElem n1l, hen]
          have hm1 := unf_ent h q1
          have m1 : (unf P).getD n1 dM = .mk s1 (bsOf P ns1) := by rw [List.getD_eq_getElem?_getD, hm1]; rfl
          have bi : (bsOf P ns)[i.toNat]? = some (.mk s1 (bsOf P ns1)) := by
            rw [bsOf, List.getElem?_map, List.getElem?_eq_getElem il, hjd, Option.map_some, m1]
          have gi : (resBs R (bsOf P ns)).getD i.toNat [] = PD.resB R (.mk s1 (bsOf P ns1)) := by
            rw [resBs_map, List.getD_eq_getElem?_getD, List.getElem?_map, bi]
            rfl
          have li1 : (lpBs R (bsOf P ns)).getD i.toNat [] = lpB R (.mk s1 (bsOf P ns1)) := by
            rw [lpBs_map, List.getD_eq_getElem?_getD, List.getElem?_map, bi]
            rfl
          have fv := fl i b hb hn
          rw [gi, rg b0 b1] at fv
          have hv1 : (legs R s1 (resBs R (bsOf P ns1)) b).2.1 ≠ .ever := by rw [fv]; exact hv
          obtain ⟨new1, l1, el1, fl1⟩ := (legs_in (s := s1) hR (gd q1).1 b0 b1).2 hv1
          simp only [lastOf, List.getLast?_append, List.getLast?_singleton, Option.some_or, hb, hn, li1] at tg
          walk_at "g"
          simp only [Leg.d, hb, hn, optI]
          walk_at "g"
          simp only [pk]
          walk_at "g"
          refine ⟨by rw [List.length_map]; omega, ?_⟩
          simp only [eMeth]
          walk_at "g"
          rw [ins_get crs_at0]
          walk_at "g"
          rw [cf_inner]
          simp only [Option.isNone_none, if_true]
          walk_at "g"
          rw [show PyData.tuple [.int l.door, .int l.st, optN l.rule, .int i, .int b] = l.d by simp only [Leg.d, hb, hn, optI], inner_eq q hb i0 (by omega), gj]
          walk_at "g"
          rw [show l.d = PyData.tuple [.int l.door, .int l.st, optN l.rule, .int i, .int b] by simp only [Leg.d, hb, hn, optI], ixT4]
          walk_at "g"
          simp only [eFld]
          walk_at "g"
          rw [fld_get crs_at0 cf_legs]
          walk_at "g"
          rw [ix_obj (x := .d (legsM R (.mk s1 (bsOf P ns1)))) crs_at2 (by rw [List.getElem?_map, hm1]; rfl)]
          walk_at "g"
          rw [legsM, ix_getL b0 (by simpa using b1)]
          simp only [List.getElem_map, List.getElem_range, show ((b.toNat : Nat) : Int) = b by omega]
          simp only [legsD, el1, List.map_append, List.map_cons, List.map_nil]
          walk_at "g"
          rw [ix_last]
          walk_at "g"
          refine ⟨n1 + 1, by omega, n1, b, p ++ [i + 1], s1, ns1, new1, l1, by simp [pk, Leg.d, optI], by omega, by simp; omega, q1, b0, b1, hv1, el1, fl1, ?_⟩
          rw [List.append_assoc]
          exact tg
      · rintro fr S ⟨⟨x1, x2, x4, rfl⟩, rfl⟩
        walk_at "g"
end
end Wk
namespace Wk
open PySem PySem.Spec PyProof.Rows L2 PD
def m_Course_leg_behind_1 : SM := sAsg (ggTup 3 (ggCons (gSet 4) (ggCons (gSet 5) (ggCons (gSet 6) (ggNil))))) (fE (e2 ixV (e2 ixV (eFld "Course" "legs" (eV 0)) (eV 1)) (eV 2)))
def m_Course_leg_behind_2 : SM := sAsg (gSet 7) (fE (eC (.int 0)))
def m_Course_leg_behind_5 : SM := sAsg (gSet 8) (fE (eA1 sumV (eLc (iSeq (eSl (eV 4) (oS (eV 6)) (oN))) (gSet 10) (bYes) (eMeth "Course" "leg_steps" 2 F_Course_leg_steps (eV 0) (aC (eV 1) (aC (eV 10) (aN)))) [10])))
def m_Course_leg_behind_6 : SM := sPar [3, 7] 11 (aC (e2 modV (eV 3) (eV 8)) (aC (eV 6) (aN)))
def m_Course_leg_behind_4 : SM := sIf (bB (e2 (eqV false) (eV 7) (eA1 lenV (eV 4)))) (sSeq m_Course_leg_behind_5 m_Course_leg_behind_6) (sNx)
def m_Course_leg_behind_7 : SM := sAsg (gSet 9) (fE (eMeth "Course" "leg_steps" 2 F_Course_leg_steps (eV 0) (aC (eV 1) (aC (e2 ixV (eV 4) (eV 7)) (aN)))))
def m_Course_leg_behind_9 : SM := sRet (eA mkTup (aC (e2 ixV (eV 4) (eV 7)) (aC (eV 3) (aN))))
def m_Course_leg_behind_8 : SM := sIf (bOr (bB (e2 (eqV false) (eV 3) (eC (.int 0)))) (bOr (bB (e2 (isV false) (eV 9) (eC .none))) (bB (e2 ltD (eV 3) (eV 9))))) (m_Course_leg_behind_9) (sNx)
def m_Course_leg_behind_11 : SM := sRet (eIf (bB (e2 (isV true) (e2 ixV (e2 ixV (eV 4) (eV 7)) (eC (.int 3))) (eC .none))) (eA mkTup (aC (e2 ixV (eV 4) (eV 7)) (aC (eV 3) (aN)))) (eC .none))
def m_Course_leg_behind_10 : SM := sIf (bAnd (bB (e2 (eqV false) (eV 7) (e2 subV (eA1 lenV (eV 4)) (eC (.int 1))))) (bB (e2 (isV false) (eV 6) (eC .none)))) (m_Course_leg_behind_11) (sNx)
def m_Course_leg_behind_12 : SM := sAug 3 subV (eV 9)
def m_Course_leg_behind_13 : SM := sAug 7 iaddV (eC (.int 1))
def m_Course_leg_behind_3 : SM := sWhile (bTr (eC (.bool true))) (sSeq m_Course_leg_behind_4 (sSeq m_Course_leg_behind_7 (sSeq m_Course_leg_behind_8 (sSeq m_Course_leg_behind_10 (sSeq m_Course_leg_behind_12 m_Course_leg_behind_13)))))
def m_Course_leg_behind : SM := sSeq m_Course_leg_behind_1 (sSeq m_Course_leg_behind_2 m_Course_leg_behind_3)
theorem m_Course_leg_behind_1_E {fr : Fr} {S : Store} : m_Course_leg_behind_1 fr S = (sAsg (ggTup 3 (ggCons (gSet 4) (ggCons (gSet 5) (ggCons (gSet 6) (ggNil))))) (fE (e2 ixV (e2 ixV (eFld "Course" "legs" (eV 0)) (eV 1)) (eV 2)))) fr S := rfl
theorem m_Course_leg_behind_2_E {fr : Fr} {S : Store} : m_Course_leg_behind_2 fr S = (sAsg (gSet 7) (fE (eC (.int 0)))) fr S := rfl
theorem m_Course_leg_behind_5_E {fr : Fr} {S : Store} : m_Course_leg_behind_5 fr S = (sAsg (gSet 8) (fE (eA1 sumV (eLc (iSeq (eSl (eV 4) (oS (eV 6)) (oN))) (gSet 10) (bYes) (eMeth "Course" "leg_steps" 2 F_Course_leg_steps (eV 0) (aC (eV 1) (aC (eV 10) (aN)))) [10])))) fr S := rfl
theorem m_Course_leg_behind_6_E {fr : Fr} {S : Store} : m_Course_leg_behind_6 fr S = (sPar [3, 7] 11 (aC (e2 modV (eV 3) (eV 8)) (aC (eV 6) (aN)))) fr S := rfl
theorem m_Course_leg_behind_4_E {fr : Fr} {S : Store} : m_Course_leg_behind_4 fr S = (sIf (bB (e2 (eqV false) (eV 7) (eA1 lenV (eV 4)))) (sSeq m_Course_leg_behind_5 m_Course_leg_behind_6) (sNx)) fr S := rfl
theorem m_Course_leg_behind_7_E {fr : Fr} {S : Store} : m_Course_leg_behind_7 fr S = (sAsg (gSet 9) (fE (eMeth "Course" "leg_steps" 2 F_Course_leg_steps (eV 0) (aC (eV 1) (aC (e2 ixV (eV 4) (eV 7)) (aN)))))) fr S := rfl
theorem m_Course_leg_behind_9_E {fr : Fr} {S : Store} : m_Course_leg_behind_9 fr S = (sRet (eA mkTup (aC (e2 ixV (eV 4) (eV 7)) (aC (eV 3) (aN))))) fr S := rfl
theorem m_Course_leg_behind_8_E {fr : Fr} {S : Store} : m_Course_leg_behind_8 fr S = (sIf (bOr (bB (e2 (eqV false) (eV 3) (eC (.int 0)))) (bOr (bB (e2 (isV false) (eV 9) (eC .none))) (bB (e2 ltD (eV 3) (eV 9))))) (m_Course_leg_behind_9) (sNx)) fr S := rfl
theorem m_Course_leg_behind_11_E {fr : Fr} {S : Store} : m_Course_leg_behind_11 fr S = (sRet (eIf (bB (e2 (isV true) (e2 ixV (e2 ixV (eV 4) (eV 7)) (eC (.int 3))) (eC .none))) (eA mkTup (aC (e2 ixV (eV 4) (eV 7)) (aC (eV 3) (aN)))) (eC .none))) fr S := rfl
theorem m_Course_leg_behind_10_E {fr : Fr} {S : Store} : m_Course_leg_behind_10 fr S = (sIf (bAnd (bB (e2 (eqV false) (eV 7) (e2 subV (eA1 lenV (eV 4)) (eC (.int 1))))) (bB (e2 (isV false) (eV 6) (eC .none)))) (m_Course_leg_behind_11) (sNx)) fr S := rfl
theorem m_Course_leg_behind_12_E {fr : Fr} {S : Store} : m_Course_leg_behind_12 fr S = (sAug 3 subV (eV 9)) fr S := rfl
theorem m_Course_leg_behind_13_E {fr : Fr} {S : Store} : m_Course_leg_behind_13 fr S = (sAug 7 iaddV (eC (.int 1))) fr S := rfl
theorem m_Course_leg_behind_3_E {fr : Fr} {S : Store} : m_Course_leg_behind_3 fr S = (sWhile (bTr (eC (.bool true))) (sSeq m_Course_leg_behind_4 (sSeq m_Course_leg_behind_7 (sSeq m_Course_leg_behind_8 (sSeq m_Course_leg_behind_10 (sSeq m_Course_leg_behind_12 m_Course_leg_behind_13)))))) fr S := rfl
theorem m_Course_leg_behind_E {fr : Fr} {S : Store} : m_Course_leg_behind fr S = (sSeq m_Course_leg_behind_1 (sSeq m_Course_leg_behind_2 m_Course_leg_behind_3)) fr S := rfl
def F_Course_leg_behind : FN := bodyF 11 m_Course_leg_behind
def m_Course_stand_behind_1 : SM := sPar [2, 3, 4] 8 (aC (e2 subV (eA1 lenV (eFld "Course" "plan" (eV 0))) (eC (.int 1))) (aC (eC (.int 0)) (aC (eA mkTup (aN)) (aN))))
def m_Course_stand_behind_2 : SM := sAsg (gSet 5) (fE (eMeth "Course" "leg_behind" 3 F_Course_leg_behind (eV 0) (aC (eV 2) (aC (eV 3) (aC (eV 1) (aN))))))
def m_Course_stand_behind_4 : SM := sAsg (ggTup 2 (ggCons (gSet 6) (ggCons (gSet 7) (ggNil)))) (fE (eV 5))
def m_Course_stand_behind_6 : SM := sRet (eA mkTup (aC (eV 4) (aC (e2 ixV (eV 6) (eC (.int 0))) (aC (e2 ixV (eV 6) (eC (.int 1))) (aN)))))
def m_Course_stand_behind_5 : SM := sIf (bB (e2 (eqV false) (eV 7) (eC (.int 0)))) (m_Course_stand_behind_6) (sNx)
def m_Course_stand_behind_7 : SM := sAsg (gSet 4) (fE (e2 addV (eV 4) (eA mkTup (aC (e2 addV (e2 ixV (eV 6) (eC (.int 3))) (eC (.int 1))) (aN)))))
def m_Course_stand_behind_8 : SM := sPar [2, 3] 8 (aC (eMeth "Course" "inner" 2 F_Course_inner (eV 0) (aC (eV 2) (aC (eV 6) (aN)))) (aC (e2 ixV (eV 6) (eC (.int 4))) (aN)))
def m_Course_stand_behind_9 : SM := sAsg (gSet 5) (fE (eMeth "Course" "leg_behind" 3 F_Course_leg_behind (eV 0) (aC (eV 2) (aC (eV 3) (aC (e2 subV (eV 7) (eC (.int 1))) (aN))))))
def m_Course_stand_behind_3 : SM := sWhile (bB (e2 (isV true) (eV 5) (eC .none))) (sSeq m_Course_stand_behind_4 (sSeq m_Course_stand_behind_5 (sSeq m_Course_stand_behind_7 (sSeq m_Course_stand_behind_8 m_Course_stand_behind_9))))
def m_Course_stand_behind_10 : SM := sRet (eC .none)
def m_Course_stand_behind : SM := sSeq m_Course_stand_behind_1 (sSeq m_Course_stand_behind_2 (sSeq m_Course_stand_behind_3 m_Course_stand_behind_10))
theorem m_Course_stand_behind_1_E {fr : Fr} {S : Store} : m_Course_stand_behind_1 fr S = (sPar [2, 3, 4] 8 (aC (e2 subV (eA1 lenV (eFld "Course" "plan" (eV 0))) (eC (.int 1))) (aC (eC (.int 0)) (aC (eA mkTup (aN)) (aN))))) fr S := rfl
theorem m_Course_stand_behind_2_E {fr : Fr} {S : Store} : m_Course_stand_behind_2 fr S = (sAsg (gSet 5) (fE (eMeth "Course" "leg_behind" 3 F_Course_leg_behind (eV 0) (aC (eV 2) (aC (eV 3) (aC (eV 1) (aN))))))) fr S := rfl
theorem m_Course_stand_behind_4_E {fr : Fr} {S : Store} : m_Course_stand_behind_4 fr S = (sAsg (ggTup 2 (ggCons (gSet 6) (ggCons (gSet 7) (ggNil)))) (fE (eV 5))) fr S := rfl
theorem m_Course_stand_behind_6_E {fr : Fr} {S : Store} : m_Course_stand_behind_6 fr S = (sRet (eA mkTup (aC (eV 4) (aC (e2 ixV (eV 6) (eC (.int 0))) (aC (e2 ixV (eV 6) (eC (.int 1))) (aN)))))) fr S := rfl
theorem m_Course_stand_behind_5_E {fr : Fr} {S : Store} : m_Course_stand_behind_5 fr S = (sIf (bB (e2 (eqV false) (eV 7) (eC (.int 0)))) (m_Course_stand_behind_6) (sNx)) fr S := rfl
theorem m_Course_stand_behind_7_E {fr : Fr} {S : Store} : m_Course_stand_behind_7 fr S = (sAsg (gSet 4) (fE (e2 addV (eV 4) (eA mkTup (aC (e2 addV (e2 ixV (eV 6) (eC (.int 3))) (eC (.int 1))) (aN)))))) fr S := rfl
theorem m_Course_stand_behind_8_E {fr : Fr} {S : Store} : m_Course_stand_behind_8 fr S = (sPar [2, 3] 8 (aC (eMeth "Course" "inner" 2 F_Course_inner (eV 0) (aC (eV 2) (aC (eV 6) (aN)))) (aC (e2 ixV (eV 6) (eC (.int 4))) (aN)))) fr S := rfl
theorem m_Course_stand_behind_9_E {fr : Fr} {S : Store} : m_Course_stand_behind_9 fr S = (sAsg (gSet 5) (fE (eMeth "Course" "leg_behind" 3 F_Course_leg_behind (eV 0) (aC (eV 2) (aC (eV 3) (aC (e2 subV (eV 7) (eC (.int 1))) (aN))))))) fr S := rfl
theorem m_Course_stand_behind_3_E {fr : Fr} {S : Store} : m_Course_stand_behind_3 fr S = (sWhile (bB (e2 (isV true) (eV 5) (eC .none))) (sSeq m_Course_stand_behind_4 (sSeq m_Course_stand_behind_5 (sSeq m_Course_stand_behind_7 (sSeq m_Course_stand_behind_8 m_Course_stand_behind_9))))) fr S := rfl
theorem m_Course_stand_behind_10_E {fr : Fr} {S : Store} : m_Course_stand_behind_10 fr S = (sRet (eC .none)) fr S := rfl
theorem m_Course_stand_behind_E {fr : Fr} {S : Store} : m_Course_stand_behind fr S = (sSeq m_Course_stand_behind_1 (sSeq m_Course_stand_behind_2 (sSeq m_Course_stand_behind_3 m_Course_stand_behind_10))) fr S := rfl
def F_Course_stand_behind : FN := bodyF 8 m_Course_stand_behind
local macro_rules
  | `(tactic| walk_at "go") => `(tactic| simp only [sSeq, ssat_next, ssat_toS, ssat_nx, ssat_rt, ssat_bk, ssat_ct, ssat_bad, ssat_ite, if_false_right, sat_ok, sat_bad, sat_exc, sat_bind, sat_ite, sPutO, sPutI, sPutD, eD, ownD, sAsg, fE, sIf, sNx, sRet, sDrop, sOwn, sApp, sExt, sPar, sFor, e1, e2, eV, eC, eA, eA1, aC, aN, eSl, oN, oS, eP, eM1, eIf, eCall, eChain, eJ, jC, jN, bB, bTr, bAnd, bOr, bNot, eAnd, eOr, eNot, bYes, iSeq, iA, ofG, ofO, fmtV, strV, tupleV, listV, iaddV, PD.eq_int, PD.eq_str, eq_self, gSet, ggNil, ggCons, ggTup, mkTup, mkLst, mkObj, asDs, asD, ownL,
      List.map_cons, List.map_nil, List.cons_append, List.nil_append, List.length_cons, List.length_nil, List.length_set, List.replicate, List.getElem?_cons_succ, List.getElem?_cons_zero, List.getElem?_nil, List.set_cons_succ, List.set_cons_zero, List.all_cons, List.all_nil, setAll, Option.map_some, Option.map_none, Option.bind_some, Option.bind_none,
      ixV, addV, subV, mulV, modV, divV, powV, negV, lenV, intV, absI, enumV, iterV, PD.slV, boolV, truthV, ltD, revA, ltV, gtV, leV, geV, isV, isNone, L2.atI, ixN, Bool.false_xor, Bool.true_xor, Bool.not_true, Bool.not_false, Bool.and_true, Bool.true_and, Bool.and_false, Bool.false_and, decide_true, decide_false, decide_eq_true_eq, Bool.and_eq_true, if_true, if_false, reduceIte, Bool.false_eq_true, Str.empty_append, List.length_append, ite_true, ite_false, true_and, and_true, Int.cast_ofNat_Int, Nat.reduceAdd, Nat.reduceSub, Nat.reduceLT, Int.reduceLT, Int.reduceLE, Int.reduceToNat, Nat.lt_add_one])
local macro_rules
  | `(tactic| walk_at "g0") => `(tactic| simp only [sSeq, ssat_next, ssat_toS, ssat_nx, ssat_rt, ssat_bk, ssat_ct, ssat_bad, ssat_ite, if_false_right, sat_ok, sat_bad, sat_exc, sat_bind, sat_ite, sPutO, sPutI, sPutD, eD, ownD, sAsg, fE, sIf, sNx, sRet, sDrop, sOwn, sApp, sExt, sPar, sFor, e1, e2, eV, eC, eA, eA1, aC, aN, eSl, oN, oS, eP, eM1, eIf, eCall, eChain, eJ, jC, jN, bB, bTr, bAnd, bOr, bNot, eAnd, eOr, eNot, bYes, iSeq, iA, ofG, ofO, fmtV, strV, tupleV, listV, iaddV, PD.eq_int, PD.eq_str, eq_self, gSet, ggNil, ggCons, ggTup, mkTup, mkLst, mkObj, asDs, asD, ownL,
      List.map_cons, List.map_nil, List.cons_append, List.nil_append, List.length_cons, List.length_nil, List.length_set, List.replicate, List.getElem?_cons_succ, List.getElem?_cons_zero, List.getElem?_nil, List.set_cons_succ, List.set_cons_zero, List.all_cons, List.all_nil, setAll, ixT0, ixT1, ixT2, ixL0, ixL1, ixL2, Option.map_some, Option.map_none, Option.bind_some, Option.bind_none,
      addV, subV, mulV, modV, divV, powV, negV, lenV, intV, absI, enumV, iterV, PD.slV, boolV, truthV, ltD, revA, ltV, gtV, leV, geV, isV, isNone, Bool.false_xor, Bool.true_xor, Bool.not_true, Bool.not_false, Bool.and_true, Bool.true_and, Bool.and_false, Bool.false_and, decide_true, decide_false, decide_eq_true_eq, Bool.and_eq_true, if_true, if_false, reduceIte, Bool.false_eq_true, Str.empty_append, List.length_append, ite_true, ite_false, true_and, and_true, Int.cast_ofNat_Int, Nat.reduceAdd, Nat.reduceSub, Nat.reduceLT, Int.reduceLT, Int.reduceLE, Int.reduceToNat, Nat.lt_add_one])
local macro_rules
  | `(tactic| walk_at "g1") => `(tactic| simp only [sSeq, ssat_next, ssat_toS, ssat_nx, ssat_rt, ssat_bk, ssat_ct, ssat_bad, ssat_ite, if_false_right, sat_ok, sat_bad, sat_exc, sat_bind, sat_ite, sPutO, sPutI, sPutD, eD, ownD, sAsg, fE, sIf, sNx, sRet, sDrop, sOwn, sApp, sExt, sPar, sFor, e1, e2, eV, eC, eA, eA1, aC, aN, eSl, oN, oS, eP, eM1, eIf, eCall, eChain, eJ, jC, jN, bB, bTr, bAnd, bOr, bNot, eAnd, eOr, eNot, bYes, iSeq, iA, ofG, ofO, fmtV, strV, tupleV, listV, iaddV, PD.eq_int, PD.eq_str, eq_self, gSet, ggNil, ggCons, ggTup, mkTup, mkLst, mkObj, asDs, asD, ownL,
      List.map_cons, List.map_nil, List.cons_append, List.nil_append, List.length_cons, List.length_nil, List.length_set, List.replicate, List.getElem?_cons_succ, List.getElem?_cons_zero, List.getElem?_nil, List.set_cons_succ, List.set_cons_zero, List.all_cons, List.all_nil, setAll, ixT0, ixT1, ixT2, ixL0, ixL1, ixL2, Option.map_some, Option.map_none, Option.bind_some, Option.bind_none,
      addV, subV, mulV, modV, divV, powV, negV, lenV, intV, absI, enumV, iterV, PD.slV, boolV, truthV, ltD, revA, ltV, gtV, leV, geV, isV, isNone, Bool.false_xor, Bool.true_xor, Bool.not_true, Bool.not_false, Bool.and_true, Bool.true_and, Bool.and_false, Bool.false_and, decide_true, decide_false, decide_eq_true_eq, Bool.and_eq_true, if_true, if_false, reduceIte, Bool.false_eq_true, Str.empty_append, List.length_append, ite_true, ite_false, true_and, and_true, Int.cast_ofNat_Int, Nat.reduceAdd, Nat.reduceSub, Nat.reduceLT, Int.reduceLT, Int.reduceSub, Int.reduceAdd, Int.reduceNeg, Int.reduceLE, Int.reduceToNat, Nat.lt_add_one])
local macro_rules
  | `(tactic| walk_at "g") => `(tactic| simp only [sSeq, ssat_next, ssat_toS, ssat_nx, ssat_rt, ssat_bk, ssat_ct, ssat_bad, ssat_ite, if_false_right, sat_ok, sat_bad, sat_exc, sat_bind, sat_ite, sPutO, sPutI, sPutD, sAug, eD, ownD, sAsg, fE, sIf, sNx, sRet, sDrop, sOwn, sApp, sExt, sPar, sFor, e1, e2, eV, eC, eA, eA1, aC, aN, eSl, oN, oS, eP, eM1, eIf, eCall, eChain, eJ, jC, jN, bB, bTr, bAnd, bOr, bNot, eAnd, eOr, eNot, bYes, iSeq, iA, ofG, ofO, fmtV, strV, tupleV, listV, iaddV, PD.eq_int, PD.eq_str, eq_self, gSet, ggNil, ggCons, ggTup, mkTup, mkLst, mkObj, asDs, asD, ownL,
      List.map_cons, List.map_nil, List.cons_append, List.nil_append, List.length_cons, List.length_nil, List.length_set, List.replicate, List.getElem?_cons_succ, List.getElem?_cons_zero, List.getElem?_nil, List.set_cons_succ, List.set_cons_zero, List.all_cons, List.all_nil, setAll, ixT0, ixT1, ixT2, ixL0, ixL1, ixL2, Option.map_some, Option.map_none, Option.bind_some, Option.bind_none,
      addV, subV, mulW, mulV, modV, divV, powV, negV, lenV, intV, absI, enumV, iterV, PD.slV, boolV, truthV, ltD, revA, ltV, gtV, leV, geV, isV, isNone, Bool.false_xor, Bool.true_xor, Bool.not_true, Bool.not_false, Bool.and_true, Bool.true_and, Bool.and_false, Bool.false_and, decide_true, decide_false, decide_eq_true_eq, Bool.and_eq_true, if_true, if_false, reduceIte, Bool.false_eq_true, Str.empty_append, List.length_append, ite_true, ite_false, true_and, and_true, Int.cast_ofNat_Int, Nat.reduceAdd, Nat.reduceSub, Nat.reduceLT, Int.reduceLT, Int.reduceSub, Int.reduceAdd, Int.reduceNeg, Int.reduceLE, Int.reduceToNat, Nat.lt_add_one, beq_iff_eq, sizeLine_eq, Nat.reduceLeDiff, inV_tup, inV_lst, eqv_str, eqv_int, eqV_nilT, cutD_tail, false_and, and_false, or_true, true_or, or_false, false_or, ixT3, Bool.true_eq_false, Bool.or_eq_false_iff, decide_eq_false_iff_not, Int.not_le, Int.not_lt, beq_self_eq_true, Int.reduceBEq, Bool.not_eq_eq_eq_not, beq_eq_false_iff_ne, ne_eq, not_true_eq_false, not_false_eq_true, List.isEmpty_cons, List.isEmpty_nil, List.any_cons, List.any_nil, Bool.or_false, Bool.or_eq_true, isaV, PyData.isInt, PyData.isStr, PyData.isBool, PyData.isTuple, PyData.isList, PyData.isDict, m_Course_leg_behind_1_E, m_Course_leg_behind_2_E, m_Course_leg_behind_5_E, m_Course_leg_behind_6_E, m_Course_leg_behind_4_E, m_Course_leg_behind_7_E, m_Course_leg_behind_9_E, m_Course_leg_behind_8_E, m_Course_leg_behind_11_E, m_Course_leg_behind_10_E, m_Course_leg_behind_12_E, m_Course_leg_behind_13_E, m_Course_leg_behind_3_E, m_Course_leg_behind_E, m_Course_stand_behind_1_E, m_Course_stand_behind_2_E, m_Course_stand_behind_4_E, m_Course_stand_behind_6_E, m_Course_stand_behind_5_E, m_Course_stand_behind_7_E, m_Course_stand_behind_8_E, m_Course_stand_behind_9_E, m_Course_stand_behind_3_E, m_Course_stand_behind_10_E, m_Course_stand_behind_E])
local macro_rules
  | `(tactic| walk_at "gt") => `(tactic| try walk_at "go")
local macro_rules
  | `(tactic| walk_at "gq") => `(tactic| try walk_at "g0")
local macro_rules
  | `(tactic| walk_at "len") => `(tactic| (simp only [Str.length_append, PySem.ofString_length, len_nil, sizeLine_eq] at *; omega))
local macro_rules
  | `(tactic| walk_at "fin") => `(tactic| ((repeat' apply And.intro) <;> first | assumption | exact True.intro | walk_at "len" | rfl))
local macro_rules
  | `(tactic| walk_at "start") => `(tactic| (rw [sat_body]; simp only [List.map_cons, List.map_nil, List.cons_append, List.nil_append, List.length_cons, List.length_nil, Nat.reduceAdd, Nat.reduceSub, List.replicate]))
local macro_rules
  | `(tactic| walk_at "wd") => `(tactic| first | assumption | exact Wd.none | exact Wd.bool | exact Wd.small (by decide) (by decide) | exact Wd.lit (by decide) | exact Wd.dict0 | exact Wd.tup Wds.nil | exact Wd.lst Wds.nil | (refine Wd.t1 (k := 2) (a := 990) ?_ (by decide) <;> walk_at "wd") | (refine Wd.t2 (k := 2) (a := 990) (b := 990) ?_ ?_ (by decide) <;> walk_at "wd") | (refine Wd.t3 (k := 2) (a := 990) (b := 990) (c := 990) ?_ ?_ ?_ (by decide) <;> walk_at "wd") | (refine Wd.t4 (k := 2) (a := 990) (b := 990) (c := 990) (e := 990) ?_ ?_ ?_ ?_ (by decide) <;> walk_at "wd") | (refine Wd.t1 (k := 1) (a := 240) ?_ (by decide) <;> walk_at "wd") | (refine Wd.t2 (k := 1) (a := 240) (b := 240) ?_ ?_ (by decide) <;> walk_at "wd") | (refine Wd.t3 (k := 1) (a := 240) (b := 240) (c := 240) ?_ ?_ ?_ (by decide) <;> walk_at "wd") | (refine Wd.t4 (k := 1) (a := 240) (b := 240) (c := 240) (e := 240) ?_ ?_ ?_ ?_ (by decide) <;> walk_at "wd") | (refine Wd.t1 (k := 0) (a := 55) ?_ (by decide) <;> walk_at "wd") | (refine Wd.t2 (k := 0) (a := 55) (b := 55) ?_ ?_ (by decide) <;> walk_at "wd") | (refine Wd.t3 (k := 0) (a := 55) (b := 55) (c := 55) ?_ ?_ ?_ (by decide) <;> walk_at "wd") | (refine Wd.t4 (k := 0) (a := 55) (b := 55) (c := 55) (e := 55) ?_ ?_ ?_ ?_ (by decide) <;> walk_at "wd"))
local macro_rules
  | `(tactic| walk_at "c") => `(tactic| simp only [eFld, sFldS, sAppO, eMeth, eMake, sSeq, ssat_next, ssat_toS, ssat_nx, ssat_rt, ssat_bk, ssat_ct, ssat_bad, ssat_ite, if_false_right, sat_ok, sat_bad, sat_exc, sat_bind, sat_ite, sPutO, sPutI, sPutD, sAug, eD, ownD, sAsg, fE, sIf, sNx, sRet, sDrop, sOwn, sApp, sExt, sPar, sFor, e1, e2, eV, eC, eA, eA1, aC, aN, eSl, oN, oS, eP, eM1, eIf, eCall, eChain, eJ, jC, jN, bB, bTr, bAnd, bOr, bNot, eAnd, eOr, eNot, bYes, iSeq, iA, ofG, ofO, fmtV, strV, tupleV, listV, iaddV, PD.eq_int, PD.eq_str, eq_self, gSet, ggNil, ggCons, ggTup, mkTup, mkLst, mkObj, asDs, asD, ownL,
      List.map_cons, List.map_nil, List.cons_append, List.nil_append, List.length_cons, List.length_nil, List.length_set, List.replicate, List.getElem?_cons_succ, List.getElem?_cons_zero, List.getElem?_nil, List.set_cons_succ, List.set_cons_zero, List.all_cons, List.all_nil, setAll, ixT0, ixT1, ixT2, ixL0, ixL1, ixL2, Option.map_some, Option.map_none, Option.bind_some, Option.bind_none,
      addV, subV, mulW, mulV, modV, divV, powV, negV, lenV, intV, absI, enumV, iterV, PD.slV, boolV, truthV, ltD, revA, ltV, gtV, leV, geV, isV, isNone, Bool.false_xor, Bool.true_xor, Bool.not_true, Bool.not_false, Bool.and_true, Bool.true_and, Bool.and_false, Bool.false_and, decide_true, decide_false, decide_eq_true_eq, Bool.and_eq_true, if_true, if_false, reduceIte, Bool.false_eq_true, Str.empty_append, List.length_append, ite_true, ite_false, true_and, and_true, Int.cast_ofNat_Int, Nat.reduceAdd, Nat.reduceSub, Nat.reduceLT, Int.reduceLT, Int.reduceSub, Int.reduceAdd, Int.reduceNeg, Int.reduceLE, Int.reduceToNat, Nat.lt_add_one, beq_iff_eq, sizeLine_eq, Nat.reduceLeDiff, inV_tup, inV_lst, eqv_str, eqv_int, eqV_nilT, cutD_tail, false_and, and_false, or_true, true_or, or_false, false_or, ixT3, Bool.true_eq_false, Bool.or_eq_false_iff, decide_eq_false_iff_not, Int.not_le, Int.not_lt, beq_self_eq_true, Int.reduceBEq, Bool.not_eq_eq_eq_not, beq_eq_false_iff_ne, ne_eq, not_true_eq_false, not_false_eq_true, List.isEmpty_cons, List.isEmpty_nil, List.any_cons, List.any_nil, Bool.or_false, Bool.or_eq_true, isaV, PyData.isInt, PyData.isStr, PyData.isBool, PyData.isTuple, PyData.isList, PyData.isDict, m_Course_leg_behind_1_E, m_Course_leg_behind_2_E, m_Course_leg_behind_5_E, m_Course_leg_behind_6_E, m_Course_leg_behind_4_E, m_Course_leg_behind_7_E, m_Course_leg_behind_9_E, m_Course_leg_behind_8_E, m_Course_leg_behind_11_E, m_Course_leg_behind_10_E, m_Course_leg_behind_12_E, m_Course_leg_behind_13_E, m_Course_leg_behind_3_E, m_Course_leg_behind_E, m_Course_stand_behind_1_E, m_Course_stand_behind_2_E, m_Course_stand_behind_4_E, m_Course_stand_behind_6_E, m_Course_stand_behind_5_E, m_Course_stand_behind_7_E, m_Course_stand_behind_8_E, m_Course_stand_behind_9_E, m_Course_stand_behind_3_E, m_Course_stand_behind_10_E, m_Course_stand_behind_E])
section
variable {S0 : Store} {P : Plan} {R : Rob} {k : Nat}
theorem nk_leg_behind_plan : ((Str.ofString "leg_behind" : Str) == Str.ofString "plan") = false := by decide +kernel
theorem nk_leg_behind_results : ((Str.ofString "leg_behind" : Str) == Str.ofString "results") = false := by decide +kernel
theorem nk_leg_behind_legs : ((Str.ofString "leg_behind" : Str) == Str.ofString "legs") = false := by decide +kernel
theorem nk_leg_behind_steps : ((Str.ofString "leg_behind" : Str) == Str.ofString "steps") = false := by decide +kernel
theorem nk_stand_behind_plan : ((Str.ofString "stand_behind" : Str) == Str.ofString "plan") = false := by decide +kernel
theorem nk_stand_behind_results : ((Str.ofString "stand_behind" : Str) == Str.ofString "results") = false := by decide +kernel
theorem nk_stand_behind_legs : ((Str.ofString "stand_behind" : Str) == Str.ofString "legs") = false := by decide +kernel
theorem nk_stand_behind_steps : ((Str.ofString "stand_behind" : Str) == Str.ofString "steps") = false := by decide +kernel
theorem cf_leg_behind {n : Nat} {P : Plan} : (cfs n P).lookup (Str.ofString "leg_behind") = none := by
  unfold cfs
  simp only [List.lookup_cons, List.lookup_nil, nk_leg_behind_plan, nk_leg_behind_results, nk_leg_behind_legs, nk_leg_behind_steps]
theorem cf_stand_behind {n : Nat} {P : Plan} : (cfs n P).lookup (Str.ofString "stand_behind") = none := by
  unfold cfs
  simp only [List.lookup_cons, List.lookup_nil, nk_stand_behind_plan, nk_stand_behind_results, nk_stand_behind_legs, nk_stand_behind_steps]
theorem leg_steps_eq2 (h : PlanWf P) {e : Nat} {s : Str} {ns : List Nat} {l : Leg} (q : P[e]? = some (s, ns)) (ek : e ≤ k) (li : LegIn ns.length R.length l) :
    F_Course_leg_steps [.obj S0.length, .d (.int (e : Nat)), .d l.d] (crsS S0 P R k) = .ok (.d (stepD (legO (stBs R (bsOf P ns)) l))) (crsS S0 P R k) := by
  by_cases lo : legOk (stBs R (bsOf P ns)) l
  · rw [leg_steps_eq h q ek li lo]
    congr 2
    rcases li.ok with hb | ⟨i, b, hb, hn, i0, i1, b0, b1⟩
    · simp only [legO, legSt, hb, stepD]
    · have := lo i b hb hn
      obtain ⟨v, hv⟩ := Option.isSome_iff_exists.mp this
      simp only [legO, legSt, hb, hn, hv, stepD, Option.map_some, Option.getD_some]
  · rcases li.ok with hb | ⟨i, b, hb, hn, i0, i1, b0, b1⟩
    · exact absurd (fun i b e => by rw [hb] at e; cases e) lo
    refine sat_eq ?_
    unfold F_Course_leg_steps
    walk_at "start"
    unfold m_Course_leg_steps m_Course_leg_steps_1 m_Course_leg_steps_3 m_Course_leg_steps_4
    walk_at "c"
    simp only [Leg.d, hb, hn, optI]
    walk_at "c"
    rw [fld_get crs_at0 cf_steps]
    walk_at "c"
    rw [ins_get crs_at0]
    walk_at "c"
    rw [cf_inner]
    simp only [Option.isNone_none, if_true]
    walk_at "c"
    rw [show PyData.tuple [.int l.door, .int l.st, optN l.rule, .int i, .int b] = l.d by simp only [Leg.d, hb, hn, optI], inner_eq q hb i0 (by omega)]
    walk_at "c"
    have hl : i.toNat < ns.length := by omega
    have hj := (h.at_ e (s, ns) q).2.2 _ (List.getElem_mem hl)
    have gj : ns.getD i.toNat 0 = ns[i.toNat] := by rw [List.getD_eq_getElem?_getD, List.getElem?_eq_getElem hl]; rfl
    have he := (List.getElem?_eq_some_iff.mp q).1
    rw [gj]
    generalize hjd : ns[i.toNat] = j at *
    have jl : j < (unf P).length := by rw [unf_len]; omega
    have tT : (stBs R (bsOf P ns)).getD i.toNat [] = stB R ((unf P).getD j dM) := by
      rw [stBs_map, bsOf, List.map_map, List.getD_eq_getElem?_getD, List.getElem?_map, List.getElem?_eq_getElem hl, hjd]
      rfl
    rw [ix_obj (x := .d (stepsM R ((unf P).getD j dM))) crs_at3 (by
      rw [List.getElem?_map, List.getElem?_take_of_lt (by omega), List.getElem?_eq_getElem jl, List.getD_eq_getElem?_getD, List.getElem?_eq_getElem jl]
      rfl)]
    walk_at "c"
    rw [show l.d = PyData.tuple [.int l.door, .int l.st, optN l.rule, .int i, .int b] by simp only [Leg.d, hb, hn, optI], ixT4]
    walk_at "c"
    have hnn : (stB R ((unf P).getD j dM)).getD b.toNat none = none := by
      cases hv : (stB R ((unf P).getD j dM)).getD b.toNat none with
      | none => rfl
      | some v =>
        refine absurd (fun i' b' e1 e2 => ?_) lo
        rw [hb] at e1
        rw [hn] at e2
        cases e1
        cases e2
        rw [tT, hv]
        rfl
    simp only [legO, hb, hn]
    rw [tT, hnn]
    have bl : b < ((stB R ((unf P).getD j dM)).length : Nat) := by rw [stB_len]; exact b1
    rw [show stepsM R ((unf P).getD j dM) = .list ((stB R ((unf P).getD j dM)).map stepD) from rfl, ix_getL b0 (by rw [List.length_map]; exact bl)]
    simp only [List.getElem_map]
    have hv2 : (stB R ((unf P).getD j dM))[b.toNat]'(by omega) = none := by
      rw [List.getD_eq_getElem?_getD, List.getElem?_eq_getElem (by omega)] at hnn
      exact hnn
    rw [hv2]
    simp only [stepD]
    walk_at "c"
def lbD : Option (Leg × Nat) → PyData
  | none => .none
  | some (l, u) => .tuple [l.d, .int (u : Nat)]
theorem leg_behind_eq (hR : RobWf R) (h : PlanWf P) {e : Nat} {s : Str} {ns : List Nat} {st : Int} {n : Nat} (q : P[e]? = some (s, ns)) (ek : e ≤ k) (h0 : 0 ≤ st) (h1 : st < R.length) :
    (F_Course_leg_behind [.obj S0.length, .d (.int (e : Nat)), .d (.int st), .d (.int (n : Nat))] (crsS S0 P R k)).sat (fun v S => S = crsS S0 P R k ∧ ∃ o, v = .d (lbD o) ∧ LBok (.mk s (bsOf P ns)) R (bsOf P ns) st n o) NoX := by
  have sz : sizeLine = 16777216 := sizeLine_eq
  have hm := unf_ent h q
  have w : (Maze.mk s (bsOf P ns)).Wf := unf_wf h _ (List.mem_of_getElem? hm)
  have g := resBs_g hR w
  have lb : (bsOf P ns).length = ns.length := by rw [bsOf, List.length_map]
  have lG : (resBs R (bsOf P ns)).length = (bsOf P ns).length := by rw [resBs_map, List.length_map]
  have rg := legs_ring (s := s) hR g h0 h1
  have lin := (legs_in (s := s) hR g h0 h1).1
  rw [lG, lb] at lin
  have ll := legs_len (R := R) (s := s) (G := resBs R (bsOf P ns)) (st := st)
  have gf := g.few
  have rf := hR.few
  have hN : (1 + (resBs R (bsOf P ns)).length) * R.length ≤ 300 := by
    have := Nat.mul_le_mul (show 1 + (resBs R (bsOf P ns)).length ≤ 3 by omega) rf
    omega
  unfold F_Course_leg_behind
  walk_at "start"
  rw [m_Course_leg_behind_E]
  have hLD : (legs R s (resBs R (bsOf P ns)) st).1.map Leg.d = (legs R s (resBs R (bsOf P ns)) st).1.map Leg.d := rfl
  obtain ⟨L, hL⟩ : ∃ L, (legs R s (resBs R (bsOf P ns)) st).1 = L := ⟨_, rfl⟩
  obtain ⟨ag, hag⟩ : ∃ ag, (legs R s (resBs R (bsOf P ns)) st).2.2 = ag := ⟨_, rfl⟩
  rw [hL, hag] at rg
  rw [hL] at lin ll
  have lL : L.length ≤ 301 := Nat.le_trans ll (Nat.add_le_add_right hN 1)
  refine seq_sat (fun fr S => S = crsS S0 P R k ∧ ∃ x5, fr = [some (.obj S0.length), some (.d (.int (e : Nat))), some (.d (.int st)), some (.d (.int (n : Nat))), some (.d (.list (L.map Leg.d))), x5, some (.d (optN ag)), none, none, none, none]) ?_ ?_
  · walk_at "c"
    rw [fld_get crs_at0 cf_legs]
    walk_at "g"
    rw [ix_obj (x := .d (legsM R (.mk s (bsOf P ns)))) crs_at2 (by rw [List.getElem?_map, hm]; rfl)]
    walk_at "g"
    rw [legsM, ix_getL h0 (by simpa using h1)]
    simp only [List.getElem_map, List.getElem_range, show ((st.toNat : Nat) : Int) = st by omega]
    simp only [legsD, hL, hag]
    walk_at "g"
    exact ⟨_, rfl⟩
  · rintro fr S ⟨rfl, x5, rfl⟩
    walk_at "g"
    obtain ⟨M, hM⟩ : ∃ M, M = Maze.mk s (bsOf P ns) := ⟨_, rfl⟩
    obtain ⟨T, hT⟩ : ∃ T, T = stBs R (bsOf P ns) := ⟨_, rfl⟩
    refine ssat_while (fun j fr S => S = crsS S0 P R k ∧ ∃ (at_ sN : Nat) (cur : Leg) (x8 x9 x10 : Option SV), fr = [some (.obj S0.length), some (.d (.int (e : Nat))), some (.d (.int st)), some (.d (.int (sN : Nat))), some (.d (.list (L.map Leg.d))), x5, some (.d (optN ag)), some (.d (.int (at_ : Nat))), x8, x9, x10] ∧
      (L[at_]? = some cur ∨ (at_ = L.length ∧ ∃ a, ag = some a ∧ L[a]? = some cur)) ∧ aft M R n (gate st) = aft M R sN cur.std ∧ ((sN < ((L.drop at_).map (lv T)).sum ∧ L.length - at_ ≤ j) ∨ 2 * L.length + 2 - at_ ≤ j) ∧ at_ ≤ L.length) ?_ (2 * L.length + 2) fuel (by unfold fuel; omega) ?_
    · rintro j fr S ⟨rfl, at_, sN, cur, x8, x9, x10, rfl, hc, ha, hj, hle⟩
      rw [show ∀ fr S, bTr (eC (PyData.bool true)) fr S = .ok true S from fun _ _ => rfl, sat_ok, if_pos rfl]
      refine seq_sat (fun fr S => S = crsS S0 P R k ∧ ∃ (at_ sN : Nat) (cur : Leg) (x8 x9 x10 : Option SV), fr = [some (.obj S0.length), some (.d (.int (e : Nat))), some (.d (.int st)), some (.d (.int (sN : Nat))), some (.d (.list (L.map Leg.d))), x5, some (.d (optN ag)), some (.d (.int (at_ : Nat))), x8, x9, x10] ∧
        L[at_]? = some cur ∧ aft M R n (gate st) = aft M R sN cur.std ∧ ((sN < ((L.drop at_).map (lv T)).sum ∧ L.length - at_ ≤ j) ∨ 2 * L.length + 2 - at_ ≤ j)) ?_ ?_
      · walk_at "g"
        by_cases hz : at_ = L.length
        · rw [if_pos (by rw [List.length_map]; omega)]
          obtain ⟨a, hag', hla⟩ : ∃ a, ag = some a ∧ L[a]? = some cur := by
            rcases hc with hc | ⟨_, h⟩
            · have := (List.getElem?_eq_some_iff.mp hc).1
              omega
            · exact h
          have al := rg.ag_lt a hag'
          obtain ⟨t1, t2, t3⟩ := ring_turn hR w rg hag' hla (L.length - 1 - a) a cur (by omega) hla
          rw [← hT] at t1 t2 t3
          rw [← hM] at t3
          rw [hag']
          simp only [eLc, optN]
          walk_at "g"
          rw [cut_drop, ← List.map_drop]
          rw [comp_map (enc := Leg.d) (ys := L.drop a) (f := fun l => .int (lv T l : Nat)) (fun l hl => ⟨_, rfl, sat_eq (by
            simp only [wipeF, eMeth]
            walk_at "c"
            rw [ins_get crs_at0]
            walk_at "c"
            rw [cf_leg_steps]
            simp only [Option.isNone_none, if_true]
            walk_at "c"
            rw [leg_steps_eq2 h q ek (lin l (List.mem_of_mem_drop hl)), ← hT]
            obtain ⟨v, hv⟩ := Option.isSome_iff_exists.mp (t1 l hl)
            rw [lv, hv]
            simp only [stepD]
            walk_at "c"
            rfl)⟩) (by rw [sz, List.length_drop]; simp only [List.length_nil]; omega)]
          walk_at "g"
          rw [show ((L.drop a).map fun l => PyData.int (lv T l : Nat)) = ((L.drop a).map fun l => ((lv T l : Nat) : Int)).map PyData.int by rw [List.map_map]; rfl, sum_ok, cast_sumN]
          walk_at "g"
          refine ⟨by omega, a, sN % ((L.drop a).map (lv T)).sum, cur, some (.d (.int ((((L.drop a).map (lv T)).sum : Nat)))), x9, x10, by rw [Int.natCast_emod], hla, ?_, .inl ⟨Nat.mod_lt _ t2, ?_⟩⟩
          · rw [ha]
            refine aft_period ?_ sN
            have := t3 0
            rw [Nat.add_zero] at this
            exact this
          · rcases hj with ⟨h, _⟩ | h
            · rw [hz, List.drop_eq_nil_of_le (Nat.le_refl _)] at h
              simp at h
            · omega
        · rw [if_neg (by rw [List.length_map]; omega)]
          refine ⟨at_, sN, cur, _, _, _, rfl, ?_, ha, hj⟩
          rcases hc with hc | ⟨h, _⟩
          · exact hc
          · exact absurd h hz
      · clear hc ha hj hle
        rintro fr S ⟨rfl, at_, sN, cur, x8, x9, x10, rfl, hc, ha, hj⟩
        have ix : ∀ S, ixV (.d (.list (L.map Leg.d))) (.d (.int (at_ : Nat))) S = .ok (.d cur.d) S := fun S => by
          obtain ⟨h1, h2⟩ := List.getElem?_eq_some_iff.mp hc
          rw [ix_getL (by omega) (by rw [List.length_map]; omega)]
          simp only [List.getElem_map, Int.toNat_natCast, h2]
        have cm := List.mem_of_getElem? hc
        walk_at "g"
        simp only [eMeth]
        walk_at "g"
        rw [ins_get crs_at0]
        walk_at "g"
        rw [cf_leg_steps]
        simp only [Option.isNone_none, if_true]
        walk_at "g"
        rw [ix]
        walk_at "g"
        rw [leg_steps_eq2 h q ek (lin cur cm), ← hT]
        walk_at "g"
        have fin : LBok M R (bsOf P ns) st n (some (cur, sN)) → (ixV (SV.d (PyData.list (List.map Leg.d L))) (SV.d (PyData.int (at_ : Nat))) (crsS S0 P R k)).sat
          (fun a S =>
            (match asDs [a, SV.d (PyData.int (sN : Nat))] with
                | some ds => if ds.length ≤ 16777216 then Rs.ok (SV.d (PyData.tuple ds)) S else Rs.bad
                | none => Rs.bad).sat
              (fun v S => S = crsS S0 P R k ∧ ∃ o, v = SV.d (lbD o) ∧ LBok (Maze.mk s (bsOf P ns)) R (bsOf P ns) st n o)
              NoX)
          NoX := fun ok => by
          rw [ix]
          walk_at "g"
          exact ⟨some (cur, sN), rfl, by rw [← hM]; exact ok⟩
        obtain ⟨o1, o2⟩ := rg.one cur cm
        have sem := leg_sem hR o1 o2
        rw [← hM] at sem
        by_cases s0 : sN = 0
        · rw [if_pos (by omega)]
          exact fin (.inl ⟨s0, by rw [ha, s0]; rfl⟩)
        rw [if_neg (by omega)]
        obtain ⟨s', rfl⟩ : ∃ s', sN = s' + 1 := ⟨sN - 1, by omega⟩
        cases hv : legO T cur with
        | none =>
          simp only [stepD, if_true]
          refine fin (.inr ?_)
          rcases sem with ⟨e1, _, _⟩ | ⟨i, b, hb, hn, hi, b0, b1, hs, hnx⟩
          · simp only [legO, e1] at hv
            cases hv
          · refine ⟨i, b, s', rfl, hb, hn, hi, b0, b1, ?_⟩
            rw [ha, hM]
            exact leg_inside hR w hi b0 b1 (by rw [← hM]; exact hs) hb hn (.inl (by rw [← hT]; exact hv))
        | some v =>
          simp only [stepD]
          walk_at "g"
          by_cases lt : s' + 1 < v
          · rw [if_pos (by omega)]
            refine fin (.inr ?_)
            rcases sem with ⟨e1, _, _⟩ | ⟨i, b, hb, hn, hi, b0, b1, hs, hnx⟩
            · simp only [legO, e1] at hv
              have := Option.some.inj hv
              split at this <;> omega
            · refine ⟨i, b, s', rfl, hb, hn, hi, b0, b1, ?_⟩
              rw [ha, hM]
              exact leg_inside hR w hi b0 b1 (by rw [← hM]; exact hs) hb hn (.inr (.inr ⟨v, by rw [← hT]; exact hv, lt⟩))
          rw [if_neg (by omega)]
          have go : ∀ {y : Int × Int}, (legStep R s (resBs R (bsOf P ns)) cur.at).2 = .inr y → aft M R n (gate st) = aft M R (s' + 1 - v) ⟨[], y.1, y.2⟩ ∧ 0 < v := fun {y} hy => by
            obtain ⟨v', hv', v0, hs⟩ := leg_over hR w o1 o2 hy
            rw [← hT, hv] at hv'
            cases hv'
            rw [← hM] at hs
            exact ⟨by rw [ha, ← hs, show v + (s' + 1 - v) = s' + 1 by omega], v0⟩
          have hlt := (List.getElem?_eq_some_iff.mp hc).1
          have hlj := (List.getElem?_eq_some_iff.mp hc).2
          have hj1 : j - 1 < j := by rcases hj with ⟨_, h⟩ | h <;> omega
          have hj2 : (s' + 1 - v < ((L.drop (at_ + 1)).map (lv T)).sum ∧ L.length - (at_ + 1) ≤ j - 1) ∨ 2 * L.length + 2 - (at_ + 1) ≤ j - 1 := by
            rw [List.drop_eq_getElem_cons hlt, hlj, List.map_cons, List.sum_cons, show lv T cur = v by simp [lv, hv]] at hj
            rcases hj with ⟨h, h'⟩ | h
            · exact .inl ⟨by omega, by omega⟩
            · exact .inr (by omega)
          have hj3 : ((s' + 1 : Nat) : Int) - (v : Nat) = ((s' + 1 - v : Nat) : Int) := by omega
          by_cases last : at_ + 1 = L.length
          · rw [if_pos (by rw [List.length_map]; omega)]
            cases hg : ag with
            | none =>
              simp only [optN, if_true]
              rw [ix]
              obtain ⟨r, hr⟩ := rg.fin at_ cur hc last hg
              rcases sem with ⟨e1, _, e3⟩ | ⟨i, b, hb, hn, hi, b0, b1, hs, hnx⟩
              · walk_at "g"
                simp only [Leg.d, e1, optI]
                walk_at "g"
                exact ⟨none, rfl, by rw [← hM]; exact ha.trans (e3 s')⟩
              · walk_at "g"
                simp only [Leg.d, hb, hn, optI]
                walk_at "g"
                refine fin (.inr ⟨i, b, s', rfl, hb, hn, hi, b0, b1, ?_⟩)
                rw [ha, hM]
                refine leg_inside hR w hi b0 b1 (by rw [← hM]; exact hs) hb hn (.inr (.inl fun k hk => ?_))
                rw [hr, hk] at hnx
                cases hnx
            | some a =>
              simp only [optN]
              walk_at "g"
              obtain ⟨la, e1, e2⟩ := rg.rnd at_ cur hc last a hg
              refine ⟨j - 1, hj1, at_ + 1, s' + 1 - v, la, x8, some (.d (.int (v : Nat))), x10, ?_, .inr ⟨last, a, rfl, e1⟩, (go e2).1, hj2, by omega⟩
              rw [hj3]
              rfl
          · rw [if_neg (by rw [List.length_map]; omega)]
            obtain ⟨c2, e1, e2⟩ := rg.nxt at_ cur hc (by omega)
            refine ⟨j - 1, hj1, at_ + 1, s' + 1 - v, c2, x8, some (.d (.int (v : Nat))), x10, ?_, .inl e1, (go e2).1, hj2, by omega⟩
            rw [hj3]
            rfl
    · obtain ⟨l0, e0, e1⟩ := rg.fst
      refine ⟨rfl, 0, n, l0, _, _, _, rfl, .inl e0, ?_, .inr (by omega), by omega⟩
      have : l0.std = gate st := by
        have e2 : l0.door = 0 := congrArg Prod.fst e1
        have e3 : l0.st = st := congrArg Prod.snd e1
        simp only [Leg.std, e2, e3]
      rw [this]
def pres (p : List Int) (x : Std) : Std := ⟨p ++ x.path, x.door, x.st⟩
def stdO : Option Std → PyData
  | none => .none
  | some x => x.d
theorem stand_behind_eq (hR : RobWf R) (h : PlanWf P) (hl : P.length ≤ 1000) {P' : Plan} {s0 : Str} {ns0 : List Nat} {n : Nat} (ep : P = P' ++ [(s0, ns0)]) (hk : P.length ≤ k + 1) :
    F_Course_stand_behind [.obj S0.length, .d (.int (n : Nat))] (crsS S0 P R k) = .ok (.d (stdO (aft (.mk s0 (bsOf P ns0)) R n (gate 0)))) (crsS S0 P R k) := by
  have sz : sizeLine = 16777216 := sizeLine_eq
  have R1 := hR.one
  have q0 : P[P'.length]? = some (s0, ns0) := by rw [ep]; simp
  have lp : P.length = P'.length + 1 := by rw [ep]; simp
  obtain ⟨M, hM⟩ : ∃ M, M = Maze.mk s0 (bsOf P ns0) := ⟨_, rfl⟩
  rw [← hM]
  refine sat_eq ?_
  unfold F_Course_stand_behind
  walk_at "start"
  rw [m_Course_stand_behind_E]
  refine seq_sat (fun fr S => fr = [some (.obj S0.length), some (.d (.int (n : Nat))), some (.d (.int (P'.length : Nat))), some (.d (.int 0)), some (.d (.tuple [])), none, none, none] ∧ S = crsS S0 P R k) ?_ ?_
  · walk_at "c"
    rw [fld_get crs_at0 cf_plan]
    walk_at "c"
    rw [show planD P = .tuple (P.map entD) from rfl]
    walk_at "c"
    rw [List.length_map, lp, show ((P'.length + 1 : Nat) : Int) - 1 = (P'.length : Nat) by omega]
  · rintro fr S ⟨rfl, rfl⟩
    refine seq_sat (fun fr S => S = crsS S0 P R k ∧ ∃ o, fr = [some (.obj S0.length), some (.d (.int (n : Nat))), some (.d (.int (P'.length : Nat))), some (.d (.int 0)), some (.d (.tuple [])), some (.d (lbD o)), none, none] ∧ LBok M R (bsOf P ns0) 0 n o) ?_ ?_
    · walk_at "g"
      simp only [eMeth]
      walk_at "g"
      rw [ins_get crs_at0]
      walk_at "g"
      rw [cf_leg_behind]
      simp only [Option.isNone_none, if_true]
      walk_at "g"
      refine (leg_behind_eq hR h q0 (by omega) (by decide) (by omega)).on fun v S ⟨e1, o, e2, ok⟩ => ?_
      subst e1 e2
      exact ⟨rfl, o, rfl, by rw [hM]; exact ok⟩
    · rintro fr S ⟨rfl, o, rfl, ok⟩
      refine seq_sat (fun fr S => S = crsS S0 P R k ∧ aft M R n (gate 0) = none) ?_ ?_
      · walk_at "g"
        refine ssat_while (fun j fr S => S = crsS S0 P R k ∧ ∃ (e : Nat) (st : Int) (p : List Int) (s : Str) (ns : List Nat) (u : Nat) (o : Option (Leg × Nat)) (x6 x7 : Option SV), fr = [some (.obj S0.length), some (.d (.int (n : Nat))), some (.d (.int (e : Nat))), some (.d (.int st)), some (.d (pk p)), some (.d (lbD o)), x6, x7] ∧
          e < j ∧ p.length + e ≤ P'.length ∧ P[e]? = some (s, ns) ∧ 0 ≤ st ∧ st < R.length ∧ LBok (.mk s (bsOf P ns)) R (bsOf P ns) st u o ∧ aft M R n (gate 0) = (aft (.mk s (bsOf P ns)) R u (gate st)).map (pres p)) ?_ (P'.length + 1) fuel (by unfold fuel; omega) ?_
        · rintro j fr S ⟨rfl, e, st, p, s, ns, u, o, x6, x7, rfl, ej, pe, q, h0, h1, ok, ha⟩
          cases o with
          | none =>
            simp only [lbD]
            walk_at "g"
            rw [ha, show aft (.mk s (bsOf P ns)) R u (gate st) = none from ok]
            rfl
          | some lu =>
            obtain ⟨l, v⟩ := lu
            simp only [lbD]
            walk_at "g"
            rcases ok with ⟨v0, hx⟩ | ⟨i, b, u', ev, hb, hn, hi, b0, b1, hx⟩
            · rw [if_pos (by omega)]
              simp only [Leg.d]
              walk_at "g"
              rw [ha, hx]
              simp [stdO, pres, Leg.std, Std.d, pk]
            · subst ev
              rw [if_neg (by omega)]
              have lb : (bsOf P ns).length = ns.length := by rw [bsOf, List.length_map]
              have il : i < ns.length := by omega
              have nj := (h.at_ e (s, ns) q).2.2 _ (List.getElem_mem il)
              have gj : ns.getD i 0 = ns[i] := by rw [List.getD_eq_getElem?_getD, List.getElem?_eq_getElem il]; rfl
              have he := (List.getElem?_eq_some_iff.mp q).1
              have nj : ns[i] < e := nj
              generalize hjd : ns[i] = n1 at gj nj
              have n1l : n1 < P.length := by omega
              generalize hen : P[n1]'n1l = en
              obtain ⟨s1, ns1⟩ := en
              have q1 : P[n1]? = some (s1, ns1) := by rw [List.getElem?_eq_getElem n1l, hen]
              have hm1 := unf_ent h q1
              have m1 : (unf P).getD n1 dM = .mk s1 (bsOf P ns1) := by rw [List.getD_eq_getElem?_getD, hm1]; rfl
              have bi : (bsOf P ns).getD i dM = .mk s1 (bsOf P ns1) := by
                rw [List.getD_eq_getElem?_getD, bsOf, List.getElem?_map, List.getElem?_eq_getElem il, hjd, Option.map_some, m1]
                rfl
              rw [bi] at hx
              have inn := inner_eq (S0 := S0) (R := R) (k := k) (l := l) (i := ((i : Nat) : Int)) q hb (by omega) (by omega)
              rw [Int.toNat_natCast, gj] at inn
              have ld : l.d = PyData.tuple [.int l.door, .int l.st, optN l.rule, .int (i : Nat), .int b] := by simp only [Leg.d, hb, hn, optI]
              rw [ld] at inn ⊢
              walk_at "g"
              simp only [pk]
              walk_at "g"
              refine ⟨by rw [List.length_map]; omega, ?_⟩
              simp only [eMeth]
              walk_at "g"
              rw [ins_get crs_at0]
              walk_at "g"
              rw [cf_inner]
              simp only [Option.isNone_none, if_true]
              walk_at "g"
              rw [inn]
              walk_at "g"
              rw [ixT4]
              walk_at "g"
              rw [ins_get crs_at0]
              walk_at "g"
              rw [cf_leg_behind]
              simp only [Option.isNone_none, if_true]
              walk_at "g"
              rw [show ((u' + 1 : Nat) : Int) - 1 = (u' : Nat) by omega]
              refine (leg_behind_eq hR h q1 (by omega) b0 b1).on fun v S ⟨e1, o2, e2, ok2⟩ => ?_
              subst e1 e2
              refine ⟨n1 + 1, by omega, rfl, n1, b, p ++ [((i : Nat) : Int) + 1], s1, ns1, u', o2, some (.d (.tuple [.int l.door, .int l.st, optN l.rule, .int (i : Nat), .int b])), some (.d (.int ((u' + 1 : Nat) : Int))), ?_, by omega, by simp; omega, q1, b0, b1, ok2, ?_⟩
              · simp only [List.map_append, List.map_cons, List.map_nil]
                rfl
              · rw [ha, hx, Option.map_map]
                congr 1
                funext x
                simp [pres, Std.pre]
        · refine ⟨rfl, P'.length, 0, [], s0, ns0, n, o, none, none, rfl, by omega, by simp, q0, by decide, by omega, by rw [← hM]; exact ok, ?_⟩
          rw [hM]
          cases aft (.mk s0 (bsOf P ns0)) R n (gate 0) with
          | none => rfl
          | some x => simp [pres]
      · rintro fr S ⟨rfl, hn⟩
        walk_at "g"
        rw [hn]
        rfl
end
end Wk
namespace Wk
open PySem PySem.Spec PyProof.Rows L2 PD
def m_Course_stands_with_1 : SM := sOwn 2 11 (eA mkLst (aN))
def m_Course_stands_with_3 : SM := sOwn 4 11 (eA mkLst (aN))
def m_Course_stands_with_5 : SM := sAsg (gSet 8) (fE (e2 mulV (eA1 lenV (eV 5)) (eA1 intV (e2 (eqV false) (e2 ixV (e2 ixV (eFld "Course" "plan" (eV 0)) (eV 3)) (eC (.int 0))) (eV 1)))))
def m_Course_stands_with_6 : SM := sAsg (gSet 9) (fE (eLc (iSeq (eV 5)) (gSet 10) (bB (e2 (isV true) (e2 ixV (eV 10) (eC (.int 3))) (eC .none))) (e2 ixV (e2 ixV (eP 2) (eMeth "Course" "inner" 2 F_Course_inner (eV 0) (aC (eV 3) (aC (eV 10) (aN))))) (e2 ixV (eV 10) (eC (.int 4)))) [10]))
def m_Course_stands_with_7 : SM := sApp 4 (eIf (bB (e2 (eqV false) (e2 ixV (eV 6) (eC (.int 0))) (eC (.str "ever")))) (eC .none) (e2 addV (eV 8) (eA1 sumV (eV 9))))
def m_Course_stands_with_4 : SM := sFor (ggTup 3 (ggCons (gSet 5) (ggCons (gSet 6) (ggCons (gSet 7) (ggNil))))) (iSeq (e2 ixV (eFld "Course" "legs" (eV 0)) (eV 3)))
    (sSeq m_Course_stands_with_5 (sSeq m_Course_stands_with_6 m_Course_stands_with_7))
def m_Course_stands_with_8 : SM := sApp 2 (eV 4)
def m_Course_stands_with_2 : SM := sFor (gSet 3) (iA rng1V (aC (eA1 lenV (eFld "Course" "plan" (eV 0))) (aN)))
    (sSeq m_Course_stands_with_3 (sSeq m_Course_stands_with_4 m_Course_stands_with_8))
def m_Course_stands_with_9 : SM := sRet (eV 2)
def m_Course_stands_with : SM := sSeq m_Course_stands_with_1 (sSeq m_Course_stands_with_2 m_Course_stands_with_9)
theorem m_Course_stands_with_1_E {fr : Fr} {S : Store} : m_Course_stands_with_1 fr S = (sOwn 2 11 (eA mkLst (aN))) fr S := rfl
theorem m_Course_stands_with_3_E {fr : Fr} {S : Store} : m_Course_stands_with_3 fr S = (sOwn 4 11 (eA mkLst (aN))) fr S := rfl
theorem m_Course_stands_with_5_E {fr : Fr} {S : Store} : m_Course_stands_with_5 fr S = (sAsg (gSet 8) (fE (e2 mulV (eA1 lenV (eV 5)) (eA1 intV (e2 (eqV false) (e2 ixV (e2 ixV (eFld "Course" "plan" (eV 0)) (eV 3)) (eC (.int 0))) (eV 1)))))) fr S := rfl
theorem m_Course_stands_with_6_E {fr : Fr} {S : Store} : m_Course_stands_with_6 fr S = (sAsg (gSet 9) (fE (eLc (iSeq (eV 5)) (gSet 10) (bB (e2 (isV true) (e2 ixV (eV 10) (eC (.int 3))) (eC .none))) (e2 ixV (e2 ixV (eP 2) (eMeth "Course" "inner" 2 F_Course_inner (eV 0) (aC (eV 3) (aC (eV 10) (aN))))) (e2 ixV (eV 10) (eC (.int 4)))) [10]))) fr S := rfl
theorem m_Course_stands_with_7_E {fr : Fr} {S : Store} : m_Course_stands_with_7 fr S = (sApp 4 (eIf (bB (e2 (eqV false) (e2 ixV (eV 6) (eC (.int 0))) (eC (.str "ever")))) (eC .none) (e2 addV (eV 8) (eA1 sumV (eV 9))))) fr S := rfl
theorem m_Course_stands_with_4_E {fr : Fr} {S : Store} : m_Course_stands_with_4 fr S = (sFor (ggTup 3 (ggCons (gSet 5) (ggCons (gSet 6) (ggCons (gSet 7) (ggNil))))) (iSeq (e2 ixV (eFld "Course" "legs" (eV 0)) (eV 3)))
    (sSeq m_Course_stands_with_5 (sSeq m_Course_stands_with_6 m_Course_stands_with_7))) fr S := rfl
theorem m_Course_stands_with_8_E {fr : Fr} {S : Store} : m_Course_stands_with_8 fr S = (sApp 2 (eV 4)) fr S := rfl
theorem m_Course_stands_with_2_E {fr : Fr} {S : Store} : m_Course_stands_with_2 fr S = (sFor (gSet 3) (iA rng1V (aC (eA1 lenV (eFld "Course" "plan" (eV 0))) (aN)))
    (sSeq m_Course_stands_with_3 (sSeq m_Course_stands_with_4 m_Course_stands_with_8))) fr S := rfl
theorem m_Course_stands_with_9_E {fr : Fr} {S : Store} : m_Course_stands_with_9 fr S = (sRet (eV 2)) fr S := rfl
theorem m_Course_stands_with_E {fr : Fr} {S : Store} : m_Course_stands_with fr S = (sSeq m_Course_stands_with_1 (sSeq m_Course_stands_with_2 m_Course_stands_with_9)) fr S := rfl
def F_Course_stands_with : FN := bodyF 11 m_Course_stands_with
def m_plan_meets_1 : SM := sRet (e2 ixV (e2 ixV (eMeth "Course" "stands_with" 1 F_Course_stands_with (eMake "Course" 2 F_Course___init__ (aC (eV 0) (aC (eV 1) (aN)))) (aC (eV 2) (aN))) (e1 negV (eC (.int 1)))) (eC (.int 0)))
def m_plan_meets : SM := m_plan_meets_1
theorem m_plan_meets_1_E {fr : Fr} {S : Store} : m_plan_meets_1 fr S = (sRet (e2 ixV (e2 ixV (eMeth "Course" "stands_with" 1 F_Course_stands_with (eMake "Course" 2 F_Course___init__ (aC (eV 0) (aC (eV 1) (aN)))) (aC (eV 2) (aN))) (e1 negV (eC (.int 1)))) (eC (.int 0)))) fr S := rfl
theorem m_plan_meets_E {fr : Fr} {S : Store} : m_plan_meets fr S = (m_plan_meets_1) fr S := rfl
def F_plan_meets : FN := bodyF 3 m_plan_meets
local macro_rules
  | `(tactic| walk_at "go") => `(tactic| simp only [sSeq, ssat_next, ssat_toS, ssat_nx, ssat_rt, ssat_bk, ssat_ct, ssat_bad, ssat_ite, if_false_right, sat_ok, sat_bad, sat_exc, sat_bind, sat_ite, sPutO, sPutI, sPutD, eD, ownD, sAsg, fE, sIf, sNx, sRet, sDrop, sOwn, sApp, sExt, sPar, sFor, e1, e2, eV, eC, eA, eA1, aC, aN, eSl, oN, oS, eP, eM1, eIf, eCall, eChain, eJ, jC, jN, bB, bTr, bAnd, bOr, bNot, eAnd, eOr, eNot, bYes, iSeq, iA, ofG, ofO, fmtV, strV, tupleV, listV, iaddV, PD.eq_int, PD.eq_str, eq_self, gSet, ggNil, ggCons, ggTup, mkTup, mkLst, mkObj, asDs, asD, ownL,
      List.map_cons, List.map_nil, List.cons_append, List.nil_append, List.length_cons, List.length_nil, List.length_set, List.replicate, List.getElem?_cons_succ, List.getElem?_cons_zero, List.getElem?_nil, List.set_cons_succ, List.set_cons_zero, List.all_cons, List.all_nil, setAll, Option.map_some, Option.map_none, Option.bind_some, Option.bind_none,
      ixV, addV, subV, mulV, modV, divV, powV, negV, lenV, intV, absI, enumV, iterV, PD.slV, boolV, truthV, ltD, revA, ltV, gtV, leV, geV, isV, isNone, L2.atI, ixN, Bool.false_xor, Bool.true_xor, Bool.not_true, Bool.not_false, Bool.and_true, Bool.true_and, Bool.and_false, Bool.false_and, decide_true, decide_false, decide_eq_true_eq, Bool.and_eq_true, if_true, if_false, reduceIte, Bool.false_eq_true, Str.empty_append, List.length_append, ite_true, ite_false, true_and, and_true, Int.cast_ofNat_Int, Nat.reduceAdd, Nat.reduceSub, Nat.reduceLT, Int.reduceLT, Int.reduceLE, Int.reduceToNat, Nat.lt_add_one])
local macro_rules
  | `(tactic| walk_at "g0") => `(tactic| simp only [sSeq, ssat_next, ssat_toS, ssat_nx, ssat_rt, ssat_bk, ssat_ct, ssat_bad, ssat_ite, if_false_right, sat_ok, sat_bad, sat_exc, sat_bind, sat_ite, sPutO, sPutI, sPutD, eD, ownD, sAsg, fE, sIf, sNx, sRet, sDrop, sOwn, sApp, sExt, sPar, sFor, e1, e2, eV, eC, eA, eA1, aC, aN, eSl, oN, oS, eP, eM1, eIf, eCall, eChain, eJ, jC, jN, bB, bTr, bAnd, bOr, bNot, eAnd, eOr, eNot, bYes, iSeq, iA, ofG, ofO, fmtV, strV, tupleV, listV, iaddV, PD.eq_int, PD.eq_str, eq_self, gSet, ggNil, ggCons, ggTup, mkTup, mkLst, mkObj, asDs, asD, ownL,
      List.map_cons, List.map_nil, List.cons_append, List.nil_append, List.length_cons, List.length_nil, List.length_set, List.replicate, List.getElem?_cons_succ, List.getElem?_cons_zero, List.getElem?_nil, List.set_cons_succ, List.set_cons_zero, List.all_cons, List.all_nil, setAll, ixT0, ixT1, ixT2, ixL0, ixL1, ixL2, Option.map_some, Option.map_none, Option.bind_some, Option.bind_none,
      addV, subV, mulV, modV, divV, powV, negV, lenV, intV, absI, enumV, iterV, PD.slV, boolV, truthV, ltD, revA, ltV, gtV, leV, geV, isV, isNone, Bool.false_xor, Bool.true_xor, Bool.not_true, Bool.not_false, Bool.and_true, Bool.true_and, Bool.and_false, Bool.false_and, decide_true, decide_false, decide_eq_true_eq, Bool.and_eq_true, if_true, if_false, reduceIte, Bool.false_eq_true, Str.empty_append, List.length_append, ite_true, ite_false, true_and, and_true, Int.cast_ofNat_Int, Nat.reduceAdd, Nat.reduceSub, Nat.reduceLT, Int.reduceLT, Int.reduceLE, Int.reduceToNat, Nat.lt_add_one])
local macro_rules
  | `(tactic| walk_at "g1") => `(tactic| simp only [sSeq, ssat_next, ssat_toS, ssat_nx, ssat_rt, ssat_bk, ssat_ct, ssat_bad, ssat_ite, if_false_right, sat_ok, sat_bad, sat_exc, sat_bind, sat_ite, sPutO, sPutI, sPutD, eD, ownD, sAsg, fE, sIf, sNx, sRet, sDrop, sOwn, sApp, sExt, sPar, sFor, e1, e2, eV, eC, eA, eA1, aC, aN, eSl, oN, oS, eP, eM1, eIf, eCall, eChain, eJ, jC, jN, bB, bTr, bAnd, bOr, bNot, eAnd, eOr, eNot, bYes, iSeq, iA, ofG, ofO, fmtV, strV, tupleV, listV, iaddV, PD.eq_int, PD.eq_str, eq_self, gSet, ggNil, ggCons, ggTup, mkTup, mkLst, mkObj, asDs, asD, ownL,
      List.map_cons, List.map_nil, List.cons_append, List.nil_append, List.length_cons, List.length_nil, List.length_set, List.replicate, List.getElem?_cons_succ, List.getElem?_cons_zero, List.getElem?_nil, List.set_cons_succ, List.set_cons_zero, List.all_cons, List.all_nil, setAll, ixT0, ixT1, ixT2, ixL0, ixL1, ixL2, Option.map_some, Option.map_none, Option.bind_some, Option.bind_none,
      addV, subV, mulV, modV, divV, powV, negV, lenV, intV, absI, enumV, iterV, PD.slV, boolV, truthV, ltD, revA, ltV, gtV, leV, geV, isV, isNone, Bool.false_xor, Bool.true_xor, Bool.not_true, Bool.not_false, Bool.and_true, Bool.true_and, Bool.and_false, Bool.false_and, decide_true, decide_false, decide_eq_true_eq, Bool.and_eq_true, if_true, if_false, reduceIte, Bool.false_eq_true, Str.empty_append, List.length_append, ite_true, ite_false, true_and, and_true, Int.cast_ofNat_Int, Nat.reduceAdd, Nat.reduceSub, Nat.reduceLT, Int.reduceLT, Int.reduceSub, Int.reduceAdd, Int.reduceNeg, Int.reduceLE, Int.reduceToNat, Nat.lt_add_one])
local macro_rules
  | `(tactic| walk_at "g") => `(tactic| simp only [sSeq, ssat_next, ssat_toS, ssat_nx, ssat_rt, ssat_bk, ssat_ct, ssat_bad, ssat_ite, if_false_right, sat_ok, sat_bad, sat_exc, sat_bind, sat_ite, sPutO, sPutI, sPutD, sAug, eD, ownD, sAsg, fE, sIf, sNx, sRet, sDrop, sOwn, sApp, sExt, sPar, sFor, e1, e2, eV, eC, eA, eA1, aC, aN, eSl, oN, oS, eP, eM1, eIf, eCall, eChain, eJ, jC, jN, bB, bTr, bAnd, bOr, bNot, eAnd, eOr, eNot, bYes, iSeq, iA, ofG, ofO, fmtV, strV, tupleV, listV, iaddV, PD.eq_int, PD.eq_str, eq_self, gSet, ggNil, ggCons, ggTup, mkTup, mkLst, mkObj, asDs, asD, ownL,
      List.map_cons, List.map_nil, List.cons_append, List.nil_append, List.length_cons, List.length_nil, List.length_set, List.replicate, List.getElem?_cons_succ, List.getElem?_cons_zero, List.getElem?_nil, List.set_cons_succ, List.set_cons_zero, List.all_cons, List.all_nil, setAll, ixT0, ixT1, ixT2, ixL0, ixL1, ixL2, Option.map_some, Option.map_none, Option.bind_some, Option.bind_none,
      addV, subV, mulW, mulV, modV, divV, powV, negV, lenV, intV, absI, enumV, iterV, PD.slV, boolV, truthV, ltD, revA, ltV, gtV, leV, geV, isV, isNone, Bool.false_xor, Bool.true_xor, Bool.not_true, Bool.not_false, Bool.and_true, Bool.true_and, Bool.and_false, Bool.false_and, decide_true, decide_false, decide_eq_true_eq, Bool.and_eq_true, if_true, if_false, reduceIte, Bool.false_eq_true, Str.empty_append, List.length_append, ite_true, ite_false, true_and, and_true, Int.cast_ofNat_Int, Nat.reduceAdd, Nat.reduceSub, Nat.reduceLT, Int.reduceLT, Int.reduceSub, Int.reduceAdd, Int.reduceNeg, Int.reduceLE, Int.reduceToNat, Nat.lt_add_one, beq_iff_eq, sizeLine_eq, Nat.reduceLeDiff, inV_tup, inV_lst, eqv_str, eqv_int, eqV_nilT, cutD_tail, false_and, and_false, or_true, true_or, or_false, false_or, ixT3, Bool.true_eq_false, Bool.or_eq_false_iff, decide_eq_false_iff_not, Int.not_le, Int.not_lt, beq_self_eq_true, Int.reduceBEq, Bool.not_eq_eq_eq_not, beq_eq_false_iff_ne, ne_eq, not_true_eq_false, not_false_eq_true, List.isEmpty_cons, List.isEmpty_nil, List.any_cons, List.any_nil, Bool.or_false, Bool.or_eq_true, isaV, PyData.isInt, PyData.isStr, PyData.isBool, PyData.isTuple, PyData.isList, PyData.isDict, m_Course_stands_with_1_E, m_Course_stands_with_3_E, m_Course_stands_with_5_E, m_Course_stands_with_6_E, m_Course_stands_with_7_E, m_Course_stands_with_4_E, m_Course_stands_with_8_E, m_Course_stands_with_2_E, m_Course_stands_with_9_E, m_Course_stands_with_E, m_plan_meets_1_E, m_plan_meets_E])
local macro_rules
  | `(tactic| walk_at "gt") => `(tactic| try walk_at "go")
local macro_rules
  | `(tactic| walk_at "gq") => `(tactic| try walk_at "g0")
local macro_rules
  | `(tactic| walk_at "len") => `(tactic| (simp only [Str.length_append, PySem.ofString_length, len_nil, sizeLine_eq] at *; omega))
local macro_rules
  | `(tactic| walk_at "fin") => `(tactic| ((repeat' apply And.intro) <;> first | assumption | exact True.intro | walk_at "len" | rfl))
local macro_rules
  | `(tactic| walk_at "start") => `(tactic| (rw [sat_body]; simp only [List.map_cons, List.map_nil, List.cons_append, List.nil_append, List.length_cons, List.length_nil, Nat.reduceAdd, Nat.reduceSub, List.replicate]))
local macro_rules
  | `(tactic| walk_at "wd") => `(tactic| first | assumption | exact Wd.none | exact Wd.bool | exact Wd.small (by decide) (by decide) | exact Wd.lit (by decide) | exact Wd.dict0 | exact Wd.tup Wds.nil | exact Wd.lst Wds.nil | (refine Wd.t1 (k := 2) (a := 990) ?_ (by decide) <;> walk_at "wd") | (refine Wd.t2 (k := 2) (a := 990) (b := 990) ?_ ?_ (by decide) <;> walk_at "wd") | (refine Wd.t3 (k := 2) (a := 990) (b := 990) (c := 990) ?_ ?_ ?_ (by decide) <;> walk_at "wd") | (refine Wd.t4 (k := 2) (a := 990) (b := 990) (c := 990) (e := 990) ?_ ?_ ?_ ?_ (by decide) <;> walk_at "wd") | (refine Wd.t1 (k := 1) (a := 240) ?_ (by decide) <;> walk_at "wd") | (refine Wd.t2 (k := 1) (a := 240) (b := 240) ?_ ?_ (by decide) <;> walk_at "wd") | (refine Wd.t3 (k := 1) (a := 240) (b := 240) (c := 240) ?_ ?_ ?_ (by decide) <;> walk_at "wd") | (refine Wd.t4 (k := 1) (a := 240) (b := 240) (c := 240) (e := 240) ?_ ?_ ?_ ?_ (by decide) <;> walk_at "wd") | (refine Wd.t1 (k := 0) (a := 55) ?_ (by decide) <;> walk_at "wd") | (refine Wd.t2 (k := 0) (a := 55) (b := 55) ?_ ?_ (by decide) <;> walk_at "wd") | (refine Wd.t3 (k := 0) (a := 55) (b := 55) (c := 55) ?_ ?_ ?_ (by decide) <;> walk_at "wd") | (refine Wd.t4 (k := 0) (a := 55) (b := 55) (c := 55) (e := 55) ?_ ?_ ?_ ?_ (by decide) <;> walk_at "wd"))
local macro_rules
  | `(tactic| walk_at "c") => `(tactic| simp only [eFld, sFldS, sAppO, eMeth, eMake, sSeq, ssat_next, ssat_toS, ssat_nx, ssat_rt, ssat_bk, ssat_ct, ssat_bad, ssat_ite, if_false_right, sat_ok, sat_bad, sat_exc, sat_bind, sat_ite, sPutO, sPutI, sPutD, sAug, eD, ownD, sAsg, fE, sIf, sNx, sRet, sDrop, sOwn, sApp, sExt, sPar, sFor, e1, e2, eV, eC, eA, eA1, aC, aN, eSl, oN, oS, eP, eM1, eIf, eCall, eChain, eJ, jC, jN, bB, bTr, bAnd, bOr, bNot, eAnd, eOr, eNot, bYes, iSeq, iA, ofG, ofO, fmtV, strV, tupleV, listV, iaddV, PD.eq_int, PD.eq_str, eq_self, gSet, ggNil, ggCons, ggTup, mkTup, mkLst, mkObj, asDs, asD, ownL,
      List.map_cons, List.map_nil, List.cons_append, List.nil_append, List.length_cons, List.length_nil, List.length_set, List.replicate, List.getElem?_cons_succ, List.getElem?_cons_zero, List.getElem?_nil, List.set_cons_succ, List.set_cons_zero, List.all_cons, List.all_nil, setAll, ixT0, ixT1, ixT2, ixL0, ixL1, ixL2, Option.map_some, Option.map_none, Option.bind_some, Option.bind_none,
      addV, subV, mulW, mulV, modV, divV, powV, negV, lenV, intV, absI, enumV, iterV, PD.slV, boolV, truthV, ltD, revA, ltV, gtV, leV, geV, isV, isNone, Bool.false_xor, Bool.true_xor, Bool.not_true, Bool.not_false, Bool.and_true, Bool.true_and, Bool.and_false, Bool.false_and, decide_true, decide_false, decide_eq_true_eq, Bool.and_eq_true, if_true, if_false, reduceIte, Bool.false_eq_true, Str.empty_append, List.length_append, ite_true, ite_false, true_and, and_true, Int.cast_ofNat_Int, Nat.reduceAdd, Nat.reduceSub, Nat.reduceLT, Int.reduceLT, Int.reduceSub, Int.reduceAdd, Int.reduceNeg, Int.reduceLE, Int.reduceToNat, Nat.lt_add_one, beq_iff_eq, sizeLine_eq, Nat.reduceLeDiff, inV_tup, inV_lst, eqv_str, eqv_int, eqV_nilT, cutD_tail, false_and, and_false, or_true, true_or, or_false, false_or, ixT3, Bool.true_eq_false, Bool.or_eq_false_iff, decide_eq_false_iff_not, Int.not_le, Int.not_lt, beq_self_eq_true, Int.reduceBEq, Bool.not_eq_eq_eq_not, beq_eq_false_iff_ne, ne_eq, not_true_eq_false, not_false_eq_true, List.isEmpty_cons, List.isEmpty_nil, List.any_cons, List.any_nil, Bool.or_false, Bool.or_eq_true, isaV, PyData.isInt, PyData.isStr, PyData.isBool, PyData.isTuple, PyData.isList, PyData.isDict, m_Course_stands_with_1_E, m_Course_stands_with_3_E, m_Course_stands_with_5_E, m_Course_stands_with_6_E, m_Course_stands_with_7_E, m_Course_stands_with_4_E, m_Course_stands_with_8_E, m_Course_stands_with_2_E, m_Course_stands_with_9_E, m_Course_stands_with_E, m_plan_meets_1_E, m_plan_meets_E])
theorem nk_stands_with_plan : ((Str.ofString "stands_with" : Str) == Str.ofString "plan") = false := by decide +kernel
theorem nk_stands_with_results : ((Str.ofString "stands_with" : Str) == Str.ofString "results") = false := by decide +kernel
theorem nk_stands_with_legs : ((Str.ofString "stands_with" : Str) == Str.ofString "legs") = false := by decide +kernel
theorem nk_stands_with_steps : ((Str.ofString "stands_with" : Str) == Str.ofString "steps") = false := by decide +kernel
theorem cf_stands_with {n : Nat} {P : Plan} : (cfs n P).lookup (Str.ofString "stands_with") = none := by
  unfold cfs
  simp only [List.lookup_cons, List.lookup_nil, nk_stands_with_plan, nk_stands_with_results, nk_stands_with_legs, nk_stands_with_steps]
def meM (R : Rob) (g : Str) (m : Maze) : PyData := .list ((meB R g m).map stepD)
section
variable {S0 : Store} {P : Plan} {R : Rob} {k : Nat}
theorem stands_with_eq (hR : RobWf R) (h : PlanWf P) (hl : P.length ≤ 1000) {g : Str} (hg : Tx 20 g) : F_Course_stands_with [.obj S0.length, .d (.str g)] (crsS S0 P R k) = .ok (.d (.list ((unf P).map (meM R g)))) (crsS S0 P R k) := by
  have sz : sizeLine = 16777216 := sizeLine_eq
  have r4 := hR.few
  refine sat_eq ?_
  unfold F_Course_stands_with
  walk_at "start"
  rw [m_Course_stands_with_E]
  walk_at "g"
  simp only [eFld]
  walk_at "g"
  rw [fld_get crs_at0 cf_plan]
  walk_at "g"
  rw [show planD P = .tuple (P.map entD) from rfl]
  walk_at "g"
  rw [List.length_map, rng1_ok (by omega) (by omega)]
  walk_at "g"
  refine ssat_rng (fun e fr S => (∃ x3 x4 x5 x6 x7 x8 x9 x10, fr = [some (.obj S0.length), some (.d (.str g)), some (.d (.list (((unf P).take e).map (meM R g)))), x3, x4, x5, x6, x7, x8, x9, x10]) ∧ S = crsS S0 P R k) ⟨⟨_, _, _, _, _, _, _, _, rfl⟩, rfl⟩ (fun e fr S he ⟨⟨x3, x4, x5, x6, x7, x8, x9, x10, e1⟩, e2⟩ => ?_) fun fr S ⟨⟨x3, x4, x5, x6, x7, x8, x9, x10, e1⟩, e2⟩ => ?_
  · subst e1 e2
    have he : e < P.length := by omega
    generalize hq : P[e]'he = en
    obtain ⟨s, ns⟩ := en
    have q : P[e]? = some (s, ns) := by rw [List.getElem?_eq_getElem he, hq]
    have hm := unf_ent h q
    have w : (Maze.mk s (bsOf P ns)).Wf := unf_wf h _ (List.mem_of_getElem? hm)
    have gw := resBs_g hR w
    have lb : (bsOf P ns).length = ns.length := by rw [bsOf, List.length_map]
    have lG : (resBs R (bsOf P ns)).length = ns.length := by rw [resBs_map, List.length_map, lb]
    refine ⟨_, rfl, ?_⟩
    walk_at "g"
    simp only [eFld]
    walk_at "g"
    rw [fld_get crs_at0 cf_legs]
    walk_at "g"
    rw [ix_obj (x := .d (legsM R (.mk s (bsOf P ns)))) crs_at2 (by rw [List.getElem?_map, hm]; rfl)]
    walk_at "g"
    rw [legsM]
    walk_at "g"
    rw [show List.map SV.d (List.map (fun i : Nat => legsD (legs R s (resBs R (bsOf P ns)) (i : Nat))) (List.range R.length)) = (List.range R.length).map fun i : Nat => SV.d (legsD (legs R s (resBs R (bsOf P ns)) (i : Nat))) by rw [List.map_map]; rfl]
    refine ssat_each (enc := fun i : Nat => SV.d (legsD (legs R s (resBs R (bsOf P ns)) (i : Nat)))) (fun done fr S => (∃ x5 x6 x7 x8 x9 x10, fr = [some (.obj S0.length), some (.d (.str g)), some (.d (.list (((unf P).take e).map (meM R g)))), some (.d (.int (e : Nat))), some (.d (.list (done.map fun i : Nat => stepD ((meB R g (.mk s (bsOf P ns))).getD i none)))), x5, x6, x7, x8, x9, x10]) ∧ S = crsS S0 P R k)
      ⟨⟨_, _, _, _, _, _, rfl⟩, rfl⟩ (fun done i more ei fr S ⟨⟨x5, x6, x7, x8, x9, x10, e1⟩, e2⟩ => ?_) fun fr S ⟨⟨x5, x6, x7, x8, x9, x10, e1⟩, e2⟩ => ?_
    · subst e1 e2
      have hi : i < R.length := by
        have : i ∈ List.range R.length := by rw [ei]; simp
        exact List.mem_range.mp this
      have dl : done.length < R.length := by
        have := congrArg List.length ei
        simp at this
        omega
      obtain ⟨t, ht⟩ : ∃ t, legs R s (resBs R (bsOf P ns)) ((i : Nat) : Int) = t := ⟨_, rfl⟩
      have lin := (legs_in (s := s) hR gw (st := ((i : Nat) : Int)) (by omega) (by omega)).1
      have ll := legs_len (R := R) (s := s) (G := resBs R (bsOf P ns)) (st := ((i : Nat) : Int))
      have lok := legs_ok (s := s) hR w (st := ((i : Nat) : Int)) (by omega) (by omega)
      have mg := meB_get (g := g) (s := s) (bs := bsOf P ns) (R := R) (st := ((i : Nat) : Int)) (by omega) (by omega)
      rw [ht] at lin ll lok mg
      rw [Int.toNat_natCast] at mg
      rw [lG] at lin
      have gf := gw.few
      have hN : (1 + (resBs R (bsOf P ns)).length) * R.length ≤ 300 := by
        have := Nat.mul_le_mul (show 1 + (resBs R (bsOf P ns)).length ≤ 3 by omega) r4
        omega
      have lL : t.1.length ≤ 301 := Nat.le_trans ll (Nat.add_le_add_right hN 1)
      refine ⟨_, by rw [legsD]; rfl, ?_⟩
      rw [ht]
      walk_at "g"
      simp only [eFld, eLc]
      walk_at "g"
      rw [fld_get crs_at0 cf_plan]
      walk_at "g"
      rw [show planD P = .tuple (P.map entD) from rfl, ix_get (by omega) (by rw [List.length_map]; omega)]
      simp only [List.getElem_map, Int.toNat_natCast, hq, entD]
      walk_at "g"
      rw [List.length_map]
      refine ⟨.inl (by unfold PD.small64; simp; omega), ?_⟩
      rw [comp_mapf (enc := Leg.d) (ys := t.1) (b := fun l => l.bran.isSome) (f := fun l => stepD (meIn (meBs R g (bsOf P ns)) l)) (fun l hl => ⟨_, rfl, by
        rcases (lin l hl).ok with hb | ⟨i, b, hb, hn, i0, i1, b0, b1⟩
        · refine ⟨sat_eq ?_, fun z => by rw [hb] at z; cases z⟩
          simp only [wipeF, Leg.d, hb, optI]
          walk_at "g"
          rfl
        · have ld : l.d = PyData.tuple [.int l.door, .int l.st, optN l.rule, .int i, .int b] := by simp only [Leg.d, hb, hn, optI]
          refine ⟨sat_eq ?_, fun _ => sat_eq ?_⟩
          · simp only [wipeF, ld, hb]
            walk_at "g"
            rfl
          · simp only [wipeF]
            walk_at "g"
            simp only [eMeth]
            walk_at "g"
            rw [ins_get crs_at0]
            walk_at "g"
            rw [cf_inner]
            simp only [Option.isNone_none, if_true]
            walk_at "g"
            rw [inner_eq q hb i0 (by omega)]
            walk_at "g"
            have il : i.toNat < ns.length := by omega
            have hj := (h.at_ e (s, ns) q).2.2 _ (List.getElem_mem il)
            have gj : ns.getD i.toNat 0 = ns[i.toNat] := by rw [List.getD_eq_getElem?_getD, List.getElem?_eq_getElem il]; rfl
            have hj : ns[i.toNat] < e := hj
            rw [gj]
            generalize hjd : ns[i.toNat] = j at *
            have jl : j < (unf P).length := by rw [unf_len]; omega
            have tT : (meBs R g (bsOf P ns)).getD i.toNat [] = meB R g ((unf P)[j]'jl) := by
              rw [meBs_map, bsOf, List.map_map, List.getD_eq_getElem?_getD, List.getElem?_map, List.getElem?_eq_getElem il, hjd]
              simp only [Option.map_some, Option.getD_some, Function.comp]
              rw [List.getD_eq_getElem?_getD, List.getElem?_eq_getElem jl]
              rfl
            rw [ix_getL (by omega) (by rw [List.length_map, List.length_take]; omega)]
            simp only [List.getElem_map, Int.toNat_natCast, List.getElem_take]
            walk_at "g"
            rw [ld, ixT4]
            walk_at "g"
            rw [meM, ix_getL b0 (by rw [List.length_map, meB_len]; exact b1)]
            simp only [List.getElem_map]
            walk_at "g"
            simp only [meIn, hb, hn]
            rw [tT, List.getD_eq_getElem?_getD, List.getElem?_eq_getElem (by rw [meB_len]; omega)]
            rfl⟩) (by rw [sz]; simp; omega)]
      walk_at "g"
      by_cases hv : t.2.1 = .ever
      · rw [hv]
        simp only [Res.d]
        walk_at "g"
        refine ⟨by rw [List.length_map]; omega, some (.d (.list (t.1.map Leg.d))), some (.d (.tuple [.str "ever"])), some (.d (optN t.2.2)), some (.d (.int ((t.1.length : Nat) * if s = g then 1 else 0))), some (.d (.list ((t.1.filter fun l => l.bran.isSome).map fun l => stepD (meIn (meBs R g (bsOf P ns)) l)))), x10, ?_⟩
        rw [List.map_append, List.map_cons, List.map_nil, mg, meOf, if_pos hv]
        rfl
      · obtain ⟨r, hr⟩ : ∃ r, t.2.1 = r := ⟨_, rfl⟩
        rw [hr]
        have all : ∀ l ∈ t.1, ∃ v, meIn (meBs R g (bsOf P ns)) l = some v := fun l hl => meIn_some (R := R) (by rw [lb]; exact lin l hl) ((lok hv).2 l hl)
        have ei2 : (t.1.filter fun l => l.bran.isSome).map (fun l => stepD (meIn (meBs R g (bsOf P ns)) l)) = ((t.1.filter fun l => l.bran.isSome).map fun l => (((meIn (meBs R g (bsOf P ns)) l).getD 0 : Nat) : Int)).map PyData.int := by
          rw [List.map_map]
          refine List.map_congr_left fun l hl => ?_
          obtain ⟨v, hv⟩ := all l (List.mem_filter.mp hl).1
          rw [hv]
          simp only [Function.comp, hv]
          rfl
        have fin : meOf g s (meBs R g (bsOf P ns)) t = some (t.1.length * (if s = g then 1 else 0) + (t.1.map fun l => (meIn (meBs R g (bsOf P ns)) l).getD 0).sum) := by
          rw [meOf, if_neg hv]
        have cst : ((t.1.length : Nat) : Int) * (if s = g then 1 else 0) + (((t.1.map fun l => (meIn (meBs R g (bsOf P ns)) l).getD 0).sum : Nat) : Int) = ((t.1.length * (if s = g then 1 else 0) + (t.1.map fun l => (meIn (meBs R g (bsOf P ns)) l).getD 0).sum : Nat) : Int) := by
          by_cases q : s = g
          · rw [if_pos q, if_pos q]; omega
          · rw [if_neg q, if_neg q]; omega
        rw [ei2]
        cases r with
        | ever => exact absurd hr hv
        | out v =>
          simp only [Res.d]
          walk_at "g"
          simp only [nv1, decide_false, Bool.false_xor, Bool.false_eq_true, if_false]
          try walk_at "g"
          rw [sum_ok, cast_sumN, meIn_filter]
          walk_at "g"
          refine ⟨by rw [List.length_map]; omega, some (.d (.list (t.1.map Leg.d))), some (.d (.tuple [.str "out", .int v])), some (.d (optN t.2.2)), some (.d (.int ((t.1.length : Nat) * if s = g then 1 else 0))), some (.d (.list (((t.1.filter fun l => l.bran.isSome).map fun l => (((meIn (meBs R g (bsOf P ns)) l).getD 0 : Nat) : Int)).map PyData.int))), x10, ?_⟩
          rw [List.map_append, List.map_cons, List.map_nil, mg, fin, cst]
          rfl
        | stop v =>
          simp only [Res.d]
          walk_at "g"
          simp only [nv2, decide_false, Bool.false_xor, Bool.false_eq_true, if_false]
          try walk_at "g"
          rw [sum_ok, cast_sumN, meIn_filter]
          walk_at "g"
          refine ⟨by rw [List.length_map]; omega, some (.d (.list (t.1.map Leg.d))), some (.d (.tuple [.str "stop", .str v])), some (.d (optN t.2.2)), some (.d (.int ((t.1.length : Nat) * if s = g then 1 else 0))), some (.d (.list (((t.1.filter fun l => l.bran.isSome).map fun l => (((meIn (meBs R g (bsOf P ns)) l).getD 0 : Nat) : Int)).map PyData.int))), x10, ?_⟩
          rw [List.map_append, List.map_cons, List.map_nil, mg, fin, cst]
          rfl
    · subst e1 e2
      show SR.sat _ _
      walk_at "g"
      refine ⟨by rw [List.length_map, List.length_take, unf_len]; omega, some (.d (.int (e : Nat))), some (.d (.list ((List.range R.length).map fun i : Nat => stepD ((meB R g (.mk s (bsOf P ns))).getD i none)))), x5, x6, x7, x8, x9, x10, ?_⟩
      have e3 : (List.range R.length).map (fun i : Nat => stepD ((meB R g (.mk s (bsOf P ns))).getD i none)) = (meB R g (.mk s (bsOf P ns))).map stepD := by
        refine List.ext_getElem (by simp [meB_len]) fun i h1 h2 => ?_
        simp only [List.length_map, List.length_range] at h1
        simp only [List.getElem_map, List.getElem_range]
        rw [List.getD_eq_getElem?_getD, List.getElem?_eq_getElem (by rw [meB_len]; exact h1)]
        rfl
      rw [e3, List.take_succ, hm, List.map_append]
      rfl
  · subst e1 e2
    show Rs.sat _ _ _
    walk_at "g"
    rw [List.take_of_length_le (by rw [unf_len]; omega)]
end
section
variable {P : Plan} {R : Rob}
theorem plan_meets_eq {S : Store} (hR : RobWf R) (h : PlanWf P) (hl : P.length ≤ 1000) {P' : Plan} {s0 : Str} {ns0 : List Nat} (ep : P = P' ++ [(s0, ns0)]) {g : Str} (hg : Tx 20 g) :
    ∃ more, F_plan_meets [.d (planD P), .d (robD R), .d (.str g)] S = .ok (.d (stepD ((meB R g (.mk s0 (bsOf P ns0))).getD 0 none))) (S ++ more) := by
  have R1 := hR.one
  have q0 : P[P'.length]? = some (s0, ns0) := by rw [ep]; simp
  have hm := unf_ent h q0
  have ul : (unf P).length = P'.length + 1 := by rw [unf_len, ep]; simp
  have eu : unf P = (unf P).take P'.length ++ [.mk s0 (bsOf P ns0)] := by
    have hlt : P'.length < (unf P).length := by omega
    have := List.take_append_drop P'.length (unf P)
    rw [List.drop_eq_getElem_cons hlt, List.drop_eq_nil_of_le (by omega)] at this
    rw [List.getElem?_eq_getElem hlt] at hm
    rw [← Option.some.inj hm]
    exact this.symm
  refine ⟨[.ins "Course" (cfs S.length P), .lst ((unf P).map fun m => .d (resD (PD.resB R m))), .lst ((unf P).map fun m => .d (legsM R m)), .lst (((unf P).take P.length).map fun m => .d (stepsM R m))], ?_⟩
  have ec : S ++ [.ins "Course" (cfs S.length P), .lst ((unf P).map fun m => .d (resD (PD.resB R m))), .lst ((unf P).map fun m => .d (legsM R m)), .lst (((unf P).take P.length).map fun m => .d (stepsM R m))] = crsS S P R P.length := rfl
  rw [ec]
  refine sat_eq ?_
  unfold F_plan_meets
  walk_at "start"
  walk_at "c"
  rw [init_eq hR h hl]
  walk_at "c"
  rw [ins_get crs_at0]
  walk_at "c"
  rw [cf_stands_with]
  simp only [Option.isNone_none, if_true]
  walk_at "c"
  rw [stands_with_eq hR h hl hg]
  walk_at "c"
  rw [eu, List.map_append, List.map_cons, List.map_nil, ix_last]
  walk_at "c"
  rw [meM, ix_getL (by decide) (by rw [List.length_map, meB_len]; omega)]
  simp only [List.getElem_map]
  walk_at "c"
  rw [List.getD_eq_getElem?_getD, List.getElem?_eq_getElem (by rw [meB_len]; omega)]
  rfl
end
end Wk
namespace Wk
open PySem PySem.Spec PyProof.Rows L2 PD
def m_plan_walk_1 : SM := sAsg (gSet 2) (fE (eMake "Course" 2 F_Course___init__ (aC (eV 0) (aC (eV 1) (aN)))))
def m_plan_walk_2 : SM := sAsg (gSet 3) (fE (e2 ixV (e2 ixV (eFld "Course" "results" (eV 2)) (e1 negV (eC (.int 1)))) (eC (.int 0))))
def m_plan_walk_4 : SM := sRet (eA mkTup (aC (eC (.str "ever")) (aC (eC .none) (aC (eC .none) (aN)))))
def m_plan_walk_3 : SM := sIf (bB (e2 (eqV false) (e2 ixV (eV 3) (eC (.int 0))) (eC (.str "ever")))) (m_plan_walk_4) (sNx)
def m_plan_walk_5 : SM := sAsg (gSet 4) (fE (e2 ixV (e2 ixV (eFld "Course" "steps" (eV 2)) (e1 negV (eC (.int 1)))) (eC (.int 0))))
def m_plan_walk_6 : SM := sRet (eIf (bB (e2 (eqV false) (e2 ixV (eV 3) (eC (.int 0))) (eC (.str "out")))) (eA mkTup (aC (eC (.str "out")) (aC (eV 4) (aC (eC .none) (aN))))) (eA mkTup (aC (e2 ixV (eV 3) (eC (.int 1))) (aC (eV 4) (aC (eMeth "Course" "last_path" 0 F_Course_last_path (eV 2) aN) (aN))))))
def m_plan_walk : SM := sSeq m_plan_walk_1 (sSeq m_plan_walk_2 (sSeq m_plan_walk_3 (sSeq m_plan_walk_5 m_plan_walk_6)))
theorem m_plan_walk_1_E {fr : Fr} {S : Store} : m_plan_walk_1 fr S = (sAsg (gSet 2) (fE (eMake "Course" 2 F_Course___init__ (aC (eV 0) (aC (eV 1) (aN)))))) fr S := rfl
theorem m_plan_walk_2_E {fr : Fr} {S : Store} : m_plan_walk_2 fr S = (sAsg (gSet 3) (fE (e2 ixV (e2 ixV (eFld "Course" "results" (eV 2)) (e1 negV (eC (.int 1)))) (eC (.int 0))))) fr S := rfl
theorem m_plan_walk_4_E {fr : Fr} {S : Store} : m_plan_walk_4 fr S = (sRet (eA mkTup (aC (eC (.str "ever")) (aC (eC .none) (aC (eC .none) (aN)))))) fr S := rfl
theorem m_plan_walk_3_E {fr : Fr} {S : Store} : m_plan_walk_3 fr S = (sIf (bB (e2 (eqV false) (e2 ixV (eV 3) (eC (.int 0))) (eC (.str "ever")))) (m_plan_walk_4) (sNx)) fr S := rfl
theorem m_plan_walk_5_E {fr : Fr} {S : Store} : m_plan_walk_5 fr S = (sAsg (gSet 4) (fE (e2 ixV (e2 ixV (eFld "Course" "steps" (eV 2)) (e1 negV (eC (.int 1)))) (eC (.int 0))))) fr S := rfl
theorem m_plan_walk_6_E {fr : Fr} {S : Store} : m_plan_walk_6 fr S = (sRet (eIf (bB (e2 (eqV false) (e2 ixV (eV 3) (eC (.int 0))) (eC (.str "out")))) (eA mkTup (aC (eC (.str "out")) (aC (eV 4) (aC (eC .none) (aN))))) (eA mkTup (aC (e2 ixV (eV 3) (eC (.int 1))) (aC (eV 4) (aC (eMeth "Course" "last_path" 0 F_Course_last_path (eV 2) aN) (aN))))))) fr S := rfl
theorem m_plan_walk_E {fr : Fr} {S : Store} : m_plan_walk fr S = (sSeq m_plan_walk_1 (sSeq m_plan_walk_2 (sSeq m_plan_walk_3 (sSeq m_plan_walk_5 m_plan_walk_6)))) fr S := rfl
def F_plan_walk : FN := bodyF 5 m_plan_walk
local macro_rules
  | `(tactic| walk_at "go") => `(tactic| simp only [sSeq, ssat_next, ssat_toS, ssat_nx, ssat_rt, ssat_bk, ssat_ct, ssat_bad, ssat_ite, if_false_right, sat_ok, sat_bad, sat_exc, sat_bind, sat_ite, sPutO, sPutI, sPutD, eD, ownD, sAsg, fE, sIf, sNx, sRet, sDrop, sOwn, sApp, sExt, sPar, sFor, e1, e2, eV, eC, eA, eA1, aC, aN, eSl, oN, oS, eP, eM1, eIf, eCall, eChain, eJ, jC, jN, bB, bTr, bAnd, bOr, bNot, eAnd, eOr, eNot, bYes, iSeq, iA, ofG, ofO, fmtV, strV, tupleV, listV, iaddV, PD.eq_int, PD.eq_str, eq_self, gSet, ggNil, ggCons, ggTup, mkTup, mkLst, mkObj, asDs, asD, ownL,
      List.map_cons, List.map_nil, List.cons_append, List.nil_append, List.length_cons, List.length_nil, List.length_set, List.replicate, List.getElem?_cons_succ, List.getElem?_cons_zero, List.getElem?_nil, List.set_cons_succ, List.set_cons_zero, List.all_cons, List.all_nil, setAll, Option.map_some, Option.map_none, Option.bind_some, Option.bind_none,
      ixV, addV, subV, mulV, modV, divV, powV, negV, lenV, intV, absI, enumV, iterV, PD.slV, boolV, truthV, ltD, revA, ltV, gtV, leV, geV, isV, isNone, L2.atI, ixN, Bool.false_xor, Bool.true_xor, Bool.not_true, Bool.not_false, Bool.and_true, Bool.true_and, Bool.and_false, Bool.false_and, decide_true, decide_false, decide_eq_true_eq, Bool.and_eq_true, if_true, if_false, reduceIte, Bool.false_eq_true, Str.empty_append, List.length_append, ite_true, ite_false, true_and, and_true, Int.cast_ofNat_Int, Nat.reduceAdd, Nat.reduceSub, Nat.reduceLT, Int.reduceLT, Int.reduceLE, Int.reduceToNat, Nat.lt_add_one])
local macro_rules
  | `(tactic| walk_at "g0") => `(tactic| simp only [sSeq, ssat_next, ssat_toS, ssat_nx, ssat_rt, ssat_bk, ssat_ct, ssat_bad, ssat_ite, if_false_right, sat_ok, sat_bad, sat_exc, sat_bind, sat_ite, sPutO, sPutI, sPutD, eD, ownD, sAsg, fE, sIf, sNx, sRet, sDrop, sOwn, sApp, sExt, sPar, sFor, e1, e2, eV, eC, eA, eA1, aC, aN, eSl, oN, oS, eP, eM1, eIf, eCall, eChain, eJ, jC, jN, bB, bTr, bAnd, bOr, bNot, eAnd, eOr, eNot, bYes, iSeq, iA, ofG, ofO, fmtV, strV, tupleV, listV, iaddV, PD.eq_int, PD.eq_str, eq_self, gSet, ggNil, ggCons, ggTup, mkTup, mkLst, mkObj, asDs, asD, ownL,
      List.map_cons, List.map_nil, List.cons_append, List.nil_append, List.length_cons, List.length_nil, List.length_set, List.replicate, List.getElem?_cons_succ, List.getElem?_cons_zero, List.getElem?_nil, List.set_cons_succ, List.set_cons_zero, List.all_cons, List.all_nil, setAll, ixT0, ixT1, ixT2, ixL0, ixL1, ixL2, Option.map_some, Option.map_none, Option.bind_some, Option.bind_none,
      addV, subV, mulV, modV, divV, powV, negV, lenV, intV, absI, enumV, iterV, PD.slV, boolV, truthV, ltD, revA, ltV, gtV, leV, geV, isV, isNone, Bool.false_xor, Bool.true_xor, Bool.not_true, Bool.not_false, Bool.and_true, Bool.true_and, Bool.and_false, Bool.false_and, decide_true, decide_false, decide_eq_true_eq, Bool.and_eq_true, if_true, if_false, reduceIte, Bool.false_eq_true, Str.empty_append, List.length_append, ite_true, ite_false, true_and, and_true, Int.cast_ofNat_Int, Nat.reduceAdd, Nat.reduceSub, Nat.reduceLT, Int.reduceLT, Int.reduceLE, Int.reduceToNat, Nat.lt_add_one])
local macro_rules
  | `(tactic| walk_at "g1") => `(tactic| simp only [sSeq, ssat_next, ssat_toS, ssat_nx, ssat_rt, ssat_bk, ssat_ct, ssat_bad, ssat_ite, if_false_right, sat_ok, sat_bad, sat_exc, sat_bind, sat_ite, sPutO, sPutI, sPutD, eD, ownD, sAsg, fE, sIf, sNx, sRet, sDrop, sOwn, sApp, sExt, sPar, sFor, e1, e2, eV, eC, eA, eA1, aC, aN, eSl, oN, oS, eP, eM1, eIf, eCall, eChain, eJ, jC, jN, bB, bTr, bAnd, bOr, bNot, eAnd, eOr, eNot, bYes, iSeq, iA, ofG, ofO, fmtV, strV, tupleV, listV, iaddV, PD.eq_int, PD.eq_str, eq_self, gSet, ggNil, ggCons, ggTup, mkTup, mkLst, mkObj, asDs, asD, ownL,
      List.map_cons, List.map_nil, List.cons_append, List.nil_append, List.length_cons, List.length_nil, List.length_set, List.replicate, List.getElem?_cons_succ, List.getElem?_cons_zero, List.getElem?_nil, List.set_cons_succ, List.set_cons_zero, List.all_cons, List.all_nil, setAll, ixT0, ixT1, ixT2, ixL0, ixL1, ixL2, Option.map_some, Option.map_none, Option.bind_some, Option.bind_none,
      addV, subV, mulV, modV, divV, powV, negV, lenV, intV, absI, enumV, iterV, PD.slV, boolV, truthV, ltD, revA, ltV, gtV, leV, geV, isV, isNone, Bool.false_xor, Bool.true_xor, Bool.not_true, Bool.not_false, Bool.and_true, Bool.true_and, Bool.and_false, Bool.false_and, decide_true, decide_false, decide_eq_true_eq, Bool.and_eq_true, if_true, if_false, reduceIte, Bool.false_eq_true, Str.empty_append, List.length_append, ite_true, ite_false, true_and, and_true, Int.cast_ofNat_Int, Nat.reduceAdd, Nat.reduceSub, Nat.reduceLT, Int.reduceLT, Int.reduceSub, Int.reduceAdd, Int.reduceNeg, Int.reduceLE, Int.reduceToNat, Nat.lt_add_one])
local macro_rules
  | `(tactic| walk_at "g") => `(tactic| simp only [sSeq, ssat_next, ssat_toS, ssat_nx, ssat_rt, ssat_bk, ssat_ct, ssat_bad, ssat_ite, if_false_right, sat_ok, sat_bad, sat_exc, sat_bind, sat_ite, sPutO, sPutI, sPutD, sAug, eD, ownD, sAsg, fE, sIf, sNx, sRet, sDrop, sOwn, sApp, sExt, sPar, sFor, e1, e2, eV, eC, eA, eA1, aC, aN, eSl, oN, oS, eP, eM1, eIf, eCall, eChain, eJ, jC, jN, bB, bTr, bAnd, bOr, bNot, eAnd, eOr, eNot, bYes, iSeq, iA, ofG, ofO, fmtV, strV, tupleV, listV, iaddV, PD.eq_int, PD.eq_str, eq_self, gSet, ggNil, ggCons, ggTup, mkTup, mkLst, mkObj, asDs, asD, ownL,
      List.map_cons, List.map_nil, List.cons_append, List.nil_append, List.length_cons, List.length_nil, List.length_set, List.replicate, List.getElem?_cons_succ, List.getElem?_cons_zero, List.getElem?_nil, List.set_cons_succ, List.set_cons_zero, List.all_cons, List.all_nil, setAll, ixT0, ixT1, ixT2, ixL0, ixL1, ixL2, Option.map_some, Option.map_none, Option.bind_some, Option.bind_none,
      addV, subV, mulW, mulV, modV, divV, powV, negV, lenV, intV, absI, enumV, iterV, PD.slV, boolV, truthV, ltD, revA, ltV, gtV, leV, geV, isV, isNone, Bool.false_xor, Bool.true_xor, Bool.not_true, Bool.not_false, Bool.and_true, Bool.true_and, Bool.and_false, Bool.false_and, decide_true, decide_false, decide_eq_true_eq, Bool.and_eq_true, if_true, if_false, reduceIte, Bool.false_eq_true, Str.empty_append, List.length_append, ite_true, ite_false, true_and, and_true, Int.cast_ofNat_Int, Nat.reduceAdd, Nat.reduceSub, Nat.reduceLT, Int.reduceLT, Int.reduceSub, Int.reduceAdd, Int.reduceNeg, Int.reduceLE, Int.reduceToNat, Nat.lt_add_one, beq_iff_eq, sizeLine_eq, Nat.reduceLeDiff, inV_tup, inV_lst, eqv_str, eqv_int, eqV_nilT, cutD_tail, false_and, and_false, or_true, true_or, or_false, false_or, ixT3, Bool.true_eq_false, Bool.or_eq_false_iff, decide_eq_false_iff_not, Int.not_le, Int.not_lt, beq_self_eq_true, Int.reduceBEq, Bool.not_eq_eq_eq_not, beq_eq_false_iff_ne, ne_eq, not_true_eq_false, not_false_eq_true, List.isEmpty_cons, List.isEmpty_nil, List.any_cons, List.any_nil, Bool.or_false, Bool.or_eq_true, isaV, PyData.isInt, PyData.isStr, PyData.isBool, PyData.isTuple, PyData.isList, PyData.isDict, m_plan_walk_1_E, m_plan_walk_2_E, m_plan_walk_4_E, m_plan_walk_3_E, m_plan_walk_5_E, m_plan_walk_6_E, m_plan_walk_E])
local macro_rules
  | `(tactic| walk_at "gt") => `(tactic| try walk_at "go")
local macro_rules
  | `(tactic| walk_at "gq") => `(tactic| try walk_at "g0")
local macro_rules
  | `(tactic| walk_at "len") => `(tactic| (simp only [Str.length_append, PySem.ofString_length, len_nil, sizeLine_eq] at *; omega))
local macro_rules
  | `(tactic| walk_at "fin") => `(tactic| ((repeat' apply And.intro) <;> first | assumption | exact True.intro | walk_at "len" | rfl))
local macro_rules
  | `(tactic| walk_at "start") => `(tactic| (rw [sat_body]; simp only [List.map_cons, List.map_nil, List.cons_append, List.nil_append, List.length_cons, List.length_nil, Nat.reduceAdd, Nat.reduceSub, List.replicate]))
local macro_rules
  | `(tactic| walk_at "wd") => `(tactic| first | assumption | exact Wd.none | exact Wd.bool | exact Wd.small (by decide) (by decide) | exact Wd.lit (by decide) | exact Wd.dict0 | exact Wd.tup Wds.nil | exact Wd.lst Wds.nil | (refine Wd.t1 (k := 2) (a := 990) ?_ (by decide) <;> walk_at "wd") | (refine Wd.t2 (k := 2) (a := 990) (b := 990) ?_ ?_ (by decide) <;> walk_at "wd") | (refine Wd.t3 (k := 2) (a := 990) (b := 990) (c := 990) ?_ ?_ ?_ (by decide) <;> walk_at "wd") | (refine Wd.t4 (k := 2) (a := 990) (b := 990) (c := 990) (e := 990) ?_ ?_ ?_ ?_ (by decide) <;> walk_at "wd") | (refine Wd.t1 (k := 1) (a := 240) ?_ (by decide) <;> walk_at "wd") | (refine Wd.t2 (k := 1) (a := 240) (b := 240) ?_ ?_ (by decide) <;> walk_at "wd") | (refine Wd.t3 (k := 1) (a := 240) (b := 240) (c := 240) ?_ ?_ ?_ (by decide) <;> walk_at "wd") | (refine Wd.t4 (k := 1) (a := 240) (b := 240) (c := 240) (e := 240) ?_ ?_ ?_ ?_ (by decide) <;> walk_at "wd") | (refine Wd.t1 (k := 0) (a := 55) ?_ (by decide) <;> walk_at "wd") | (refine Wd.t2 (k := 0) (a := 55) (b := 55) ?_ ?_ (by decide) <;> walk_at "wd") | (refine Wd.t3 (k := 0) (a := 55) (b := 55) (c := 55) ?_ ?_ ?_ (by decide) <;> walk_at "wd") | (refine Wd.t4 (k := 0) (a := 55) (b := 55) (c := 55) (e := 55) ?_ ?_ ?_ ?_ (by decide) <;> walk_at "wd"))
local macro_rules
  | `(tactic| walk_at "c") => `(tactic| simp only [eFld, sFldS, sAppO, eMeth, eMake, sSeq, ssat_next, ssat_toS, ssat_nx, ssat_rt, ssat_bk, ssat_ct, ssat_bad, ssat_ite, if_false_right, sat_ok, sat_bad, sat_exc, sat_bind, sat_ite, sPutO, sPutI, sPutD, sAug, eD, ownD, sAsg, fE, sIf, sNx, sRet, sDrop, sOwn, sApp, sExt, sPar, sFor, e1, e2, eV, eC, eA, eA1, aC, aN, eSl, oN, oS, eP, eM1, eIf, eCall, eChain, eJ, jC, jN, bB, bTr, bAnd, bOr, bNot, eAnd, eOr, eNot, bYes, iSeq, iA, ofG, ofO, fmtV, strV, tupleV, listV, iaddV, PD.eq_int, PD.eq_str, eq_self, gSet, ggNil, ggCons, ggTup, mkTup, mkLst, mkObj, asDs, asD, ownL,
      List.map_cons, List.map_nil, List.cons_append, List.nil_append, List.length_cons, List.length_nil, List.length_set, List.replicate, List.getElem?_cons_succ, List.getElem?_cons_zero, List.getElem?_nil, List.set_cons_succ, List.set_cons_zero, List.all_cons, List.all_nil, setAll, ixT0, ixT1, ixT2, ixL0, ixL1, ixL2, Option.map_some, Option.map_none, Option.bind_some, Option.bind_none,
      addV, subV, mulW, mulV, modV, divV, powV, negV, lenV, intV, absI, enumV, iterV, PD.slV, boolV, truthV, ltD, revA, ltV, gtV, leV, geV, isV, isNone, Bool.false_xor, Bool.true_xor, Bool.not_true, Bool.not_false, Bool.and_true, Bool.true_and, Bool.and_false, Bool.false_and, decide_true, decide_false, decide_eq_true_eq, Bool.and_eq_true, if_true, if_false, reduceIte, Bool.false_eq_true, Str.empty_append, List.length_append, ite_true, ite_false, true_and, and_true, Int.cast_ofNat_Int, Nat.reduceAdd, Nat.reduceSub, Nat.reduceLT, Int.reduceLT, Int.reduceSub, Int.reduceAdd, Int.reduceNeg, Int.reduceLE, Int.reduceToNat, Nat.lt_add_one, beq_iff_eq, sizeLine_eq, Nat.reduceLeDiff, inV_tup, inV_lst, eqv_str, eqv_int, eqV_nilT, cutD_tail, false_and, and_false, or_true, true_or, or_false, false_or, ixT3, Bool.true_eq_false, Bool.or_eq_false_iff, decide_eq_false_iff_not, Int.not_le, Int.not_lt, beq_self_eq_true, Int.reduceBEq, Bool.not_eq_eq_eq_not, beq_eq_false_iff_ne, ne_eq, not_true_eq_false, not_false_eq_true, List.isEmpty_cons, List.isEmpty_nil, List.any_cons, List.any_nil, Bool.or_false, Bool.or_eq_true, isaV, PyData.isInt, PyData.isStr, PyData.isBool, PyData.isTuple, PyData.isList, PyData.isDict, m_plan_walk_1_E, m_plan_walk_2_E, m_plan_walk_4_E, m_plan_walk_3_E, m_plan_walk_5_E, m_plan_walk_6_E, m_plan_walk_E])
def planAns (R : Rob) (m : Maze) : PyData := match (PD.resB R m).getD 0 default with
  | .ever => .tuple [.str "ever", .none, .none]
  | .out _ => .tuple [.str "out", stepD ((stB R m).getD 0 none), .none]
  | .stop w => .tuple [.str w, stepD ((stB R m).getD 0 none), pk ((lpB R m).getD 0 [])]
theorem resB_len0 (R : Rob) : ∀ m : Maze, (PD.resB R m).length = R.length
  | .mk s bs => by rw [PD.resB, roomR_len]
section
variable {P : Plan} {R : Rob}
theorem plan_walk_eq {S : Store} (hR : RobWf R) (h : PlanWf P) (hl : P.length ≤ 1000) {P' : Plan} {s0 : Str} {ns0 : List Nat} (ep : P = P' ++ [(s0, ns0)]) :
    ∃ more, F_plan_walk [.d (planD P), .d (robD R)] S = .ok (.d (planAns R (.mk s0 (bsOf P ns0)))) (S ++ more) := by
  have R1 := hR.one
  have q0 : P[P'.length]? = some (s0, ns0) := by rw [ep]; simp
  have lp : P.length = P'.length + 1 := by rw [ep]; simp
  have hm := unf_ent h q0
  have ul : (unf P).length = P'.length + 1 := by rw [unf_len, lp]
  have eu : unf P = (unf P).take P'.length ++ [.mk s0 (bsOf P ns0)] := by
    have hlt : P'.length < (unf P).length := by omega
    have := List.take_append_drop P'.length (unf P)
    rw [List.drop_eq_getElem_cons hlt, List.drop_eq_nil_of_le (by omega)] at this
    rw [List.getElem?_eq_getElem hlt] at hm
    rw [← Option.some.inj hm]
    exact this.symm
  generalize hmz : (Maze.mk s0 (bsOf P ns0)) = m at *
  refine ⟨[.ins "Course" (cfs S.length P), .lst ((unf P).map fun m => .d (resD (PD.resB R m))), .lst ((unf P).map fun m => .d (legsM R m)), .lst (((unf P).take P.length).map fun m => .d (stepsM R m))], ?_⟩
  have ec : S ++ [.ins "Course" (cfs S.length P), .lst ((unf P).map fun m => .d (resD (PD.resB R m))), .lst ((unf P).map fun m => .d (legsM R m)), .lst (((unf P).take P.length).map fun m => .d (stepsM R m))] = crsS S P R P.length := rfl
  rw [ec]
  refine sat_eq ?_
  unfold F_plan_walk
  walk_at "start"
  walk_at "c"
  rw [init_eq hR h hl]
  walk_at "c"
  rw [fld_get crs_at0 cf_results]
  walk_at "c"
  rw [ix_objlast (xs := ((unf P).take P'.length).map fun m => .d (resD (PD.resB R m))) (x := .d (resD (PD.resB R m))) (by rw [crs_at1, eu, List.map_append, ← eu]; rfl)]
  walk_at "c"
  have rl := resB_len0 R m
  rw [show resD (PD.resB R m) = .tuple ((PD.resB R m).map Res.d) from rfl, ix_mapT (by decide) (by rw [rl]; omega)]
  walk_at "c"
  have sts : ∀ {S' : Store}, S' = crsS S P R P.length → ixV (.obj (S.length + 3)) (.d (.int (-1))) S' = .ok (.d (stepsM R m)) S' := fun {S'} e => by
    subst e
    refine ix_objlast (xs := ((unf P).take P'.length).map fun m => .d (stepsM R m)) (x := .d (stepsM R m)) ?_
    rw [crs_at3, show P.length = (unf P).length by rw [unf_len], List.take_length]
    conv => lhs; rw [eu]
    simp only [List.map_append, List.map_cons, List.map_nil]
  cases hr : (PD.resB R m).getD 0 default with
  | ever =>
    simp only [Res.d]
    walk_at "c"
    simp only [planAns, hr]
  | out v =>
    simp only [Res.d]
    walk_at "c"
    simp only [nv1, decide_false, Bool.false_xor, Bool.false_eq_true, if_false]
    try walk_at "c"
    rw [fld_get crs_at0 cf_steps]
    walk_at "c"
    rw [sts rfl]
    walk_at "c"
    rw [stepsM, ix_map (by decide) (by rw [stB_len]; omega)]
    walk_at "c"
    simp only [planAns, hr]
    rfl
  | stop v =>
    simp only [Res.d]
    walk_at "c"
    simp only [nv2, decide_false, Bool.false_xor, Bool.false_eq_true, if_false]
    try walk_at "c"
    rw [fld_get crs_at0 cf_steps]
    walk_at "c"
    rw [sts rfl]
    walk_at "c"
    rw [stepsM, ix_map (by decide) (by rw [stB_len]; omega)]
    walk_at "c"
    simp only [nv3, if_false]
    rw [ins_get crs_at0]
    walk_at "c"
    rw [cf_last_path]
    simp only [Option.isNone_none, if_true]
    walk_at "c"
    rw [last_path_eq hR h hl ep (by rw [hmz, hr]; intro z; cases z), hmz]
    walk_at "c"
    simp only [planAns, hr, pk]
    rfl
end
end Wk
namespace Wk
open PySem PySem.Spec PyProof.Rows L2 PD
def m_plan_stand_1 : SM := sRet (eMeth "Course" "stand_behind" 1 F_Course_stand_behind (eMake "Course" 2 F_Course___init__ (aC (eV 0) (aC (eV 1) (aN)))) (aC (eV 2) (aN)))
def m_plan_stand : SM := m_plan_stand_1
theorem m_plan_stand_1_E {fr : Fr} {S : Store} : m_plan_stand_1 fr S = (sRet (eMeth "Course" "stand_behind" 1 F_Course_stand_behind (eMake "Course" 2 F_Course___init__ (aC (eV 0) (aC (eV 1) (aN)))) (aC (eV 2) (aN)))) fr S := rfl
theorem m_plan_stand_E {fr : Fr} {S : Store} : m_plan_stand fr S = (m_plan_stand_1) fr S := rfl
def F_plan_stand : FN := bodyF 3 m_plan_stand
local macro_rules
  | `(tactic| walk_at "go") => `(tactic| simp only [sSeq, ssat_next, ssat_toS, ssat_nx, ssat_rt, ssat_bk, ssat_ct, ssat_bad, ssat_ite, if_false_right, sat_ok, sat_bad, sat_exc, sat_bind, sat_ite, sPutO, sPutI, sPutD, eD, ownD, sAsg, fE, sIf, sNx, sRet, sDrop, sOwn, sApp, sExt, sPar, sFor, e1, e2, eV, eC, eA, eA1, aC, aN, eSl, oN, oS, eP, eM1, eIf, eCall, eChain, eJ, jC, jN, bB, bTr, bAnd, bOr, bNot, eAnd, eOr, eNot, bYes, iSeq, iA, ofG, ofO, fmtV, strV, tupleV, listV, iaddV, PD.eq_int, PD.eq_str, eq_self, gSet, ggNil, ggCons, ggTup, mkTup, mkLst, mkObj, asDs, asD, ownL,
      List.map_cons, List.map_nil, List.cons_append, List.nil_append, List.length_cons, List.length_nil, List.length_set, List.replicate, List.getElem?_cons_succ, List.getElem?_cons_zero, List.getElem?_nil, List.set_cons_succ, List.set_cons_zero, List.all_cons, List.all_nil, setAll, Option.map_some, Option.map_none, Option.bind_some, Option.bind_none,
      ixV, addV, subV, mulV, modV, divV, powV, negV, lenV, intV, absI, enumV, iterV, PD.slV, boolV, truthV, ltD, revA, ltV, gtV, leV, geV, isV, isNone, L2.atI, ixN, Bool.false_xor, Bool.true_xor, Bool.not_true, Bool.not_false, Bool.and_true, Bool.true_and, Bool.and_false, Bool.false_and, decide_true, decide_false, decide_eq_true_eq, Bool.and_eq_true, if_true, if_false, reduceIte, Bool.false_eq_true, Str.empty_append, List.length_append, ite_true, ite_false, true_and, and_true, Int.cast_ofNat_Int, Nat.reduceAdd, Nat.reduceSub, Nat.reduceLT, Int.reduceLT, Int.reduceLE, Int.reduceToNat, Nat.lt_add_one])
local macro_rules
  | `(tactic| walk_at "g0") => `(tactic| simp only [sSeq, ssat_next, ssat_toS, ssat_nx, ssat_rt, ssat_bk, ssat_ct, ssat_bad, ssat_ite, if_false_right, sat_ok, sat_bad, sat_exc, sat_bind, sat_ite, sPutO, sPutI, sPutD, eD, ownD, sAsg, fE, sIf, sNx, sRet, sDrop, sOwn, sApp, sExt, sPar, sFor, e1, e2, eV, eC, eA, eA1, aC, aN, eSl, oN, oS, eP, eM1, eIf, eCall, eChain, eJ, jC, jN, bB, bTr, bAnd, bOr, bNot, eAnd, eOr, eNot, bYes, iSeq, iA, ofG, ofO, fmtV, strV, tupleV, listV, iaddV, PD.eq_int, PD.eq_str, eq_self, gSet, ggNil, ggCons, ggTup, mkTup, mkLst, mkObj, asDs, asD, ownL,
      List.map_cons, List.map_nil, List.cons_append, List.nil_append, List.length_cons, List.length_nil, List.length_set, List.replicate, List.getElem?_cons_succ, List.getElem?_cons_zero, List.getElem?_nil, List.set_cons_succ, List.set_cons_zero, List.all_cons, List.all_nil, setAll, ixT0, ixT1, ixT2, ixL0, ixL1, ixL2, Option.map_some, Option.map_none, Option.bind_some, Option.bind_none,
      addV, subV, mulV, modV, divV, powV, negV, lenV, intV, absI, enumV, iterV, PD.slV, boolV, truthV, ltD, revA, ltV, gtV, leV, geV, isV, isNone, Bool.false_xor, Bool.true_xor, Bool.not_true, Bool.not_false, Bool.and_true, Bool.true_and, Bool.and_false, Bool.false_and, decide_true, decide_false, decide_eq_true_eq, Bool.and_eq_true, if_true, if_false, reduceIte, Bool.false_eq_true, Str.empty_append, List.length_append, ite_true, ite_false, true_and, and_true, Int.cast_ofNat_Int, Nat.reduceAdd, Nat.reduceSub, Nat.reduceLT, Int.reduceLT, Int.reduceLE, Int.reduceToNat, Nat.lt_add_one])
local macro_rules
  | `(tactic| walk_at "g1") => `(tactic| simp only [sSeq, ssat_next, ssat_toS, ssat_nx, ssat_rt, ssat_bk, ssat_ct, ssat_bad, ssat_ite, if_false_right, sat_ok, sat_bad, sat_exc, sat_bind, sat_ite, sPutO, sPutI, sPutD, eD, ownD, sAsg, fE, sIf, sNx, sRet, sDrop, sOwn, sApp, sExt, sPar, sFor, e1, e2, eV, eC, eA, eA1, aC, aN, eSl, oN, oS, eP, eM1, eIf, eCall, eChain, eJ, jC, jN, bB, bTr, bAnd, bOr, bNot, eAnd, eOr, eNot, bYes, iSeq, iA, ofG, ofO, fmtV, strV, tupleV, listV, iaddV, PD.eq_int, PD.eq_str, eq_self, gSet, ggNil, ggCons, ggTup, mkTup, mkLst, mkObj, asDs, asD, ownL,
      List.map_cons, List.map_nil, List.cons_append, List.nil_append, List.length_cons, List.length_nil, List.length_set, List.replicate, List.getElem?_cons_succ, List.getElem?_cons_zero, List.getElem?_nil, List.set_cons_succ, List.set_cons_zero, List.all_cons, List.all_nil, setAll, ixT0, ixT1, ixT2, ixL0, ixL1, ixL2, Option.map_some, Option.map_none, Option.bind_some, Option.bind_none,
      addV, subV, mulV, modV, divV, powV, negV, lenV, intV, absI, enumV, iterV, PD.slV, boolV, truthV, ltD, revA, ltV, gtV, leV, geV, isV, isNone, Bool.false_xor, Bool.true_xor, Bool.not_true, Bool.not_false, Bool.and_true, Bool.true_and, Bool.and_false, Bool.false_and, decide_true, decide_false, decide_eq_true_eq, Bool.and_eq_true, if_true, if_false, reduceIte, Bool.false_eq_true, Str.empty_append, List.length_append, ite_true, ite_false, true_and, and_true, Int.cast_ofNat_Int, Nat.reduceAdd, Nat.reduceSub, Nat.reduceLT, Int.reduceLT, Int.reduceSub, Int.reduceAdd, Int.reduceNeg, Int.reduceLE, Int.reduceToNat, Nat.lt_add_one])
local macro_rules
  | `(tactic| walk_at "g") => `(tactic| simp only [sSeq, ssat_next, ssat_toS, ssat_nx, ssat_rt, ssat_bk, ssat_ct, ssat_bad, ssat_ite, if_false_right, sat_ok, sat_bad, sat_exc, sat_bind, sat_ite, sPutO, sPutI, sPutD, sAug, eD, ownD, sAsg, fE, sIf, sNx, sRet, sDrop, sOwn, sApp, sExt, sPar, sFor, e1, e2, eV, eC, eA, eA1, aC, aN, eSl, oN, oS, eP, eM1, eIf, eCall, eChain, eJ, jC, jN, bB, bTr, bAnd, bOr, bNot, eAnd, eOr, eNot, bYes, iSeq, iA, ofG, ofO, fmtV, strV, tupleV, listV, iaddV, PD.eq_int, PD.eq_str, eq_self, gSet, ggNil, ggCons, ggTup, mkTup, mkLst, mkObj, asDs, asD, ownL,
      List.map_cons, List.map_nil, List.cons_append, List.nil_append, List.length_cons, List.length_nil, List.length_set, List.replicate, List.getElem?_cons_succ, List.getElem?_cons_zero, List.getElem?_nil, List.set_cons_succ, List.set_cons_zero, List.all_cons, List.all_nil, setAll, ixT0, ixT1, ixT2, ixL0, ixL1, ixL2, Option.map_some, Option.map_none, Option.bind_some, Option.bind_none,
      addV, subV, mulW, mulV, modV, divV, powV, negV, lenV, intV, absI, enumV, iterV, PD.slV, boolV, truthV, ltD, revA, ltV, gtV, leV, geV, isV, isNone, Bool.false_xor, Bool.true_xor, Bool.not_true, Bool.not_false, Bool.and_true, Bool.true_and, Bool.and_false, Bool.false_and, decide_true, decide_false, decide_eq_true_eq, Bool.and_eq_true, if_true, if_false, reduceIte, Bool.false_eq_true, Str.empty_append, List.length_append, ite_true, ite_false, true_and, and_true, Int.cast_ofNat_Int, Nat.reduceAdd, Nat.reduceSub, Nat.reduceLT, Int.reduceLT, Int.reduceSub, Int.reduceAdd, Int.reduceNeg, Int.reduceLE, Int.reduceToNat, Nat.lt_add_one, beq_iff_eq, sizeLine_eq, Nat.reduceLeDiff, inV_tup, inV_lst, eqv_str, eqv_int, eqV_nilT, cutD_tail, false_and, and_false, or_true, true_or, or_false, false_or, ixT3, Bool.true_eq_false, Bool.or_eq_false_iff, decide_eq_false_iff_not, Int.not_le, Int.not_lt, beq_self_eq_true, Int.reduceBEq, Bool.not_eq_eq_eq_not, beq_eq_false_iff_ne, ne_eq, not_true_eq_false, not_false_eq_true, List.isEmpty_cons, List.isEmpty_nil, List.any_cons, List.any_nil, Bool.or_false, Bool.or_eq_true, isaV, PyData.isInt, PyData.isStr, PyData.isBool, PyData.isTuple, PyData.isList, PyData.isDict, m_plan_stand_1_E, m_plan_stand_E])
local macro_rules
  | `(tactic| walk_at "gt") => `(tactic| try walk_at "go")
local macro_rules
  | `(tactic| walk_at "gq") => `(tactic| try walk_at "g0")
local macro_rules
  | `(tactic| walk_at "len") => `(tactic| (simp only [Str.length_append, PySem.ofString_length, len_nil, sizeLine_eq] at *; omega))
local macro_rules
  | `(tactic| walk_at "fin") => `(tactic| ((repeat' apply And.intro) <;> first | assumption | exact True.intro | walk_at "len" | rfl))
local macro_rules
  | `(tactic| walk_at "start") => `(tactic| (rw [sat_body]; simp only [List.map_cons, List.map_nil, List.cons_append, List.nil_append, List.length_cons, List.length_nil, Nat.reduceAdd, Nat.reduceSub, List.replicate]))
local macro_rules
  | `(tactic| walk_at "wd") => `(tactic| first | assumption | exact Wd.none | exact Wd.bool | exact Wd.small (by decide) (by decide) | exact Wd.lit (by decide) | exact Wd.dict0 | exact Wd.tup Wds.nil | exact Wd.lst Wds.nil | (refine Wd.t1 (k := 2) (a := 990) ?_ (by decide) <;> walk_at "wd") | (refine Wd.t2 (k := 2) (a := 990) (b := 990) ?_ ?_ (by decide) <;> walk_at "wd") | (refine Wd.t3 (k := 2) (a := 990) (b := 990) (c := 990) ?_ ?_ ?_ (by decide) <;> walk_at "wd") | (refine Wd.t4 (k := 2) (a := 990) (b := 990) (c := 990) (e := 990) ?_ ?_ ?_ ?_ (by decide) <;> walk_at "wd") | (refine Wd.t1 (k := 1) (a := 240) ?_ (by decide) <;> walk_at "wd") | (refine Wd.t2 (k := 1) (a := 240) (b := 240) ?_ ?_ (by decide) <;> walk_at "wd") | (refine Wd.t3 (k := 1) (a := 240) (b := 240) (c := 240) ?_ ?_ ?_ (by decide) <;> walk_at "wd") | (refine Wd.t4 (k := 1) (a := 240) (b := 240) (c := 240) (e := 240) ?_ ?_ ?_ ?_ (by decide) <;> walk_at "wd") | (refine Wd.t1 (k := 0) (a := 55) ?_ (by decide) <;> walk_at "wd") | (refine Wd.t2 (k := 0) (a := 55) (b := 55) ?_ ?_ (by decide) <;> walk_at "wd") | (refine Wd.t3 (k := 0) (a := 55) (b := 55) (c := 55) ?_ ?_ ?_ (by decide) <;> walk_at "wd") | (refine Wd.t4 (k := 0) (a := 55) (b := 55) (c := 55) (e := 55) ?_ ?_ ?_ ?_ (by decide) <;> walk_at "wd"))
local macro_rules
  | `(tactic| walk_at "c") => `(tactic| simp only [eFld, sFldS, sAppO, eMeth, eMake, sSeq, ssat_next, ssat_toS, ssat_nx, ssat_rt, ssat_bk, ssat_ct, ssat_bad, ssat_ite, if_false_right, sat_ok, sat_bad, sat_exc, sat_bind, sat_ite, sPutO, sPutI, sPutD, sAug, eD, ownD, sAsg, fE, sIf, sNx, sRet, sDrop, sOwn, sApp, sExt, sPar, sFor, e1, e2, eV, eC, eA, eA1, aC, aN, eSl, oN, oS, eP, eM1, eIf, eCall, eChain, eJ, jC, jN, bB, bTr, bAnd, bOr, bNot, eAnd, eOr, eNot, bYes, iSeq, iA, ofG, ofO, fmtV, strV, tupleV, listV, iaddV, PD.eq_int, PD.eq_str, eq_self, gSet, ggNil, ggCons, ggTup, mkTup, mkLst, mkObj, asDs, asD, ownL,
      List.map_cons, List.map_nil, List.cons_append, List.nil_append, List.length_cons, List.length_nil, List.length_set, List.replicate, List.getElem?_cons_succ, List.getElem?_cons_zero, List.getElem?_nil, List.set_cons_succ, List.set_cons_zero, List.all_cons, List.all_nil, setAll, ixT0, ixT1, ixT2, ixL0, ixL1, ixL2, Option.map_some, Option.map_none, Option.bind_some, Option.bind_none,
      addV, subV, mulW, mulV, modV, divV, powV, negV, lenV, intV, absI, enumV, iterV, PD.slV, boolV, truthV, ltD, revA, ltV, gtV, leV, geV, isV, isNone, Bool.false_xor, Bool.true_xor, Bool.not_true, Bool.not_false, Bool.and_true, Bool.true_and, Bool.and_false, Bool.false_and, decide_true, decide_false, decide_eq_true_eq, Bool.and_eq_true, if_true, if_false, reduceIte, Bool.false_eq_true, Str.empty_append, List.length_append, ite_true, ite_false, true_and, and_true, Int.cast_ofNat_Int, Nat.reduceAdd, Nat.reduceSub, Nat.reduceLT, Int.reduceLT, Int.reduceSub, Int.reduceAdd, Int.reduceNeg, Int.reduceLE, Int.reduceToNat, Nat.lt_add_one, beq_iff_eq, sizeLine_eq, Nat.reduceLeDiff, inV_tup, inV_lst, eqv_str, eqv_int, eqV_nilT, cutD_tail, false_and, and_false, or_true, true_or, or_false, false_or, ixT3, Bool.true_eq_false, Bool.or_eq_false_iff, decide_eq_false_iff_not, Int.not_le, Int.not_lt, beq_self_eq_true, Int.reduceBEq, Bool.not_eq_eq_eq_not, beq_eq_false_iff_ne, ne_eq, not_true_eq_false, not_false_eq_true, List.isEmpty_cons, List.isEmpty_nil, List.any_cons, List.any_nil, Bool.or_false, Bool.or_eq_true, isaV, PyData.isInt, PyData.isStr, PyData.isBool, PyData.isTuple, PyData.isList, PyData.isDict, m_plan_stand_1_E, m_plan_stand_E])
section
variable {P : Plan} {R : Rob}
theorem plan_stand_eq {S : Store} (hR : RobWf R) (h : PlanWf P) (hl : P.length ≤ 1000) {P' : Plan} {s0 : Str} {ns0 : List Nat} (ep : P = P' ++ [(s0, ns0)]) (n : Nat) :
    ∃ more, F_plan_stand [.d (planD P), .d (robD R), .d (.int (n : Nat))] S = .ok (.d (stdO (aft (.mk s0 (bsOf P ns0)) R n (gate 0)))) (S ++ more) := by
  refine ⟨[.ins "Course" (cfs S.length P), .lst ((unf P).map fun m => .d (resD (PD.resB R m))), .lst ((unf P).map fun m => .d (legsM R m)), .lst (((unf P).take P.length).map fun m => .d (stepsM R m))], ?_⟩
  have ec : S ++ [.ins "Course" (cfs S.length P), .lst ((unf P).map fun m => .d (resD (PD.resB R m))), .lst ((unf P).map fun m => .d (legsM R m)), .lst (((unf P).take P.length).map fun m => .d (stepsM R m))] = crsS S P R P.length := rfl
  rw [ec]
  refine sat_eq ?_
  unfold F_plan_stand
  walk_at "start"
  walk_at "c"
  rw [init_eq hR h hl]
  walk_at "c"
  rw [ins_get crs_at0]
  walk_at "c"
  rw [cf_stand_behind]
  simp only [Option.isNone_none, if_true]
  walk_at "c"
  rw [stand_behind_eq hR h hl ep (by omega)]
  walk_at "c"
end
theorem aft_mem {m : Maze} {R : Rob} (hR : RobWf R) : ∀ {n : Nat} {x y : Std}, x.In m R → aft m R n x = some y → y.In m R
  | 0, x, y, hx, h => by cases h; exact hx
  | n + 1, x, y, hx, h => by
    cases hs : (wStep m R x).2 with
    | inl r => rw [aft_inl hs] at h; cases h
    | inr z => rw [aft_inr hs] at h; exact aft_mem hR ((step_in hR hx).2 z hs) h
end Wk
namespace Wk
open PySem PySem.Spec PyProof.Rows L2 PD
def m__law_signs_1 : SM := sAsg (gSet 2) (fE (eC (.str "abcdefghijklmnopqrstuvwxyz")))
def m__law_signs_2 : SM := sAsg (gSet 3) (fE (eM1 joinV (eC (.str "")) (eLc (iA rng1V (aC (eCall 2 F__law_draw (aC (eV 0) (aC (eC (.int 4)) (aN)))) (aN))) (gSet 5) (bYes) (eCall 2 F__law_one (aC (eV 0) (aC (eV 2) (aN)))) [5])))
def m__law_signs_3 : SM := sAsg (gSet 4) (fE (eM1 joinV (eC (.str "")) (eLc (iA rng1V (aC (eCall 2 F__law_draw (aC (eV 0) (aC (eC (.int 5)) (aN)))) (aN))) (gSet 5) (bYes) (eCall 2 F__law_one (aC (eV 0) (aC (eV 2) (aN)))) [5])))
def m__law_signs_4 : SM := sRet (eLc (iA rng1V (aC (eV 1) (aN))) (gSet 5) (bYes) (e2 addV (e2 addV (eV 3) (e2 ixV (eC (.str "bdgkpx")) (eV 5))) (eV 4)) [5])
def m__law_signs : SM := sSeq m__law_signs_1 (sSeq m__law_signs_2 (sSeq m__law_signs_3 m__law_signs_4))
theorem m__law_signs_1_E {fr : Fr} {S : Store} : m__law_signs_1 fr S = (sAsg (gSet 2) (fE (eC (.str "abcdefghijklmnopqrstuvwxyz")))) fr S := rfl
theorem m__law_signs_2_E {fr : Fr} {S : Store} : m__law_signs_2 fr S = (sAsg (gSet 3) (fE (eM1 joinV (eC (.str "")) (eLc (iA rng1V (aC (eCall 2 F__law_draw (aC (eV 0) (aC (eC (.int 4)) (aN)))) (aN))) (gSet 5) (bYes) (eCall 2 F__law_one (aC (eV 0) (aC (eV 2) (aN)))) [5])))) fr S := rfl
theorem m__law_signs_3_E {fr : Fr} {S : Store} : m__law_signs_3 fr S = (sAsg (gSet 4) (fE (eM1 joinV (eC (.str "")) (eLc (iA rng1V (aC (eCall 2 F__law_draw (aC (eV 0) (aC (eC (.int 5)) (aN)))) (aN))) (gSet 5) (bYes) (eCall 2 F__law_one (aC (eV 0) (aC (eV 2) (aN)))) [5])))) fr S := rfl
theorem m__law_signs_4_E {fr : Fr} {S : Store} : m__law_signs_4 fr S = (sRet (eLc (iA rng1V (aC (eV 1) (aN))) (gSet 5) (bYes) (e2 addV (e2 addV (eV 3) (e2 ixV (eC (.str "bdgkpx")) (eV 5))) (eV 4)) [5])) fr S := rfl
theorem m__law_signs_E {fr : Fr} {S : Store} : m__law_signs fr S = (sSeq m__law_signs_1 (sSeq m__law_signs_2 (sSeq m__law_signs_3 m__law_signs_4))) fr S := rfl
def F__law_signs : FN := bodyF 6 m__law_signs
local macro_rules
  | `(tactic| walk_at "go") => `(tactic| simp only [sSeq, ssat_next, ssat_toS, ssat_nx, ssat_rt, ssat_bk, ssat_ct, ssat_bad, ssat_ite, if_false_right, sat_ok, sat_bad, sat_exc, sat_bind, sat_ite, sPutO, sPutI, sPutD, eD, ownD, sAsg, fE, sIf, sNx, sRet, sDrop, sOwn, sApp, sExt, sPar, sFor, e1, e2, eV, eC, eA, eA1, aC, aN, eSl, oN, oS, eP, eM1, eIf, eCall, eChain, eJ, jC, jN, bB, bTr, bAnd, bOr, bNot, eAnd, eOr, eNot, bYes, iSeq, iA, ofG, ofO, fmtV, strV, tupleV, listV, iaddV, PD.eq_int, PD.eq_str, eq_self, gSet, ggNil, ggCons, ggTup, mkTup, mkLst, mkObj, asDs, asD, ownL,
      List.map_cons, List.map_nil, List.cons_append, List.nil_append, List.length_cons, List.length_nil, List.length_set, List.replicate, List.getElem?_cons_succ, List.getElem?_cons_zero, List.getElem?_nil, List.set_cons_succ, List.set_cons_zero, List.all_cons, List.all_nil, setAll, Option.map_some, Option.map_none, Option.bind_some, Option.bind_none,
      ixV, addV, subV, mulV, modV, divV, powV, negV, lenV, intV, absI, enumV, iterV, PD.slV, boolV, truthV, ltD, revA, ltV, gtV, leV, geV, isV, isNone, L2.atI, ixN, Bool.false_xor, Bool.true_xor, Bool.not_true, Bool.not_false, Bool.and_true, Bool.true_and, Bool.and_false, Bool.false_and, decide_true, decide_false, decide_eq_true_eq, Bool.and_eq_true, if_true, if_false, reduceIte, Bool.false_eq_true, Str.empty_append, List.length_append, ite_true, ite_false, true_and, and_true, Int.cast_ofNat_Int, Nat.reduceAdd, Nat.reduceSub, Nat.reduceLT, Int.reduceLT, Int.reduceLE, Int.reduceToNat, Nat.lt_add_one])
local macro_rules
  | `(tactic| walk_at "g0") => `(tactic| simp only [sSeq, ssat_next, ssat_toS, ssat_nx, ssat_rt, ssat_bk, ssat_ct, ssat_bad, ssat_ite, if_false_right, sat_ok, sat_bad, sat_exc, sat_bind, sat_ite, sPutO, sPutI, sPutD, eD, ownD, sAsg, fE, sIf, sNx, sRet, sDrop, sOwn, sApp, sExt, sPar, sFor, e1, e2, eV, eC, eA, eA1, aC, aN, eSl, oN, oS, eP, eM1, eIf, eCall, eChain, eJ, jC, jN, bB, bTr, bAnd, bOr, bNot, eAnd, eOr, eNot, bYes, iSeq, iA, ofG, ofO, fmtV, strV, tupleV, listV, iaddV, PD.eq_int, PD.eq_str, eq_self, gSet, ggNil, ggCons, ggTup, mkTup, mkLst, mkObj, asDs, asD, ownL,
      List.map_cons, List.map_nil, List.cons_append, List.nil_append, List.length_cons, List.length_nil, List.length_set, List.replicate, List.getElem?_cons_succ, List.getElem?_cons_zero, List.getElem?_nil, List.set_cons_succ, List.set_cons_zero, List.all_cons, List.all_nil, setAll, ixT0, ixT1, ixT2, ixL0, ixL1, ixL2, Option.map_some, Option.map_none, Option.bind_some, Option.bind_none,
      addV, subV, mulV, modV, divV, powV, negV, lenV, intV, absI, enumV, iterV, PD.slV, boolV, truthV, ltD, revA, ltV, gtV, leV, geV, isV, isNone, Bool.false_xor, Bool.true_xor, Bool.not_true, Bool.not_false, Bool.and_true, Bool.true_and, Bool.and_false, Bool.false_and, decide_true, decide_false, decide_eq_true_eq, Bool.and_eq_true, if_true, if_false, reduceIte, Bool.false_eq_true, Str.empty_append, List.length_append, ite_true, ite_false, true_and, and_true, Int.cast_ofNat_Int, Nat.reduceAdd, Nat.reduceSub, Nat.reduceLT, Int.reduceLT, Int.reduceLE, Int.reduceToNat, Nat.lt_add_one])
local macro_rules
  | `(tactic| walk_at "g1") => `(tactic| simp only [sSeq, ssat_next, ssat_toS, ssat_nx, ssat_rt, ssat_bk, ssat_ct, ssat_bad, ssat_ite, if_false_right, sat_ok, sat_bad, sat_exc, sat_bind, sat_ite, sPutO, sPutI, sPutD, eD, ownD, sAsg, fE, sIf, sNx, sRet, sDrop, sOwn, sApp, sExt, sPar, sFor, e1, e2, eV, eC, eA, eA1, aC, aN, eSl, oN, oS, eP, eM1, eIf, eCall, eChain, eJ, jC, jN, bB, bTr, bAnd, bOr, bNot, eAnd, eOr, eNot, bYes, iSeq, iA, ofG, ofO, fmtV, strV, tupleV, listV, iaddV, PD.eq_int, PD.eq_str, eq_self, gSet, ggNil, ggCons, ggTup, mkTup, mkLst, mkObj, asDs, asD, ownL,
      List.map_cons, List.map_nil, List.cons_append, List.nil_append, List.length_cons, List.length_nil, List.length_set, List.replicate, List.getElem?_cons_succ, List.getElem?_cons_zero, List.getElem?_nil, List.set_cons_succ, List.set_cons_zero, List.all_cons, List.all_nil, setAll, ixT0, ixT1, ixT2, ixL0, ixL1, ixL2, Option.map_some, Option.map_none, Option.bind_some, Option.bind_none,
      addV, subV, mulV, modV, divV, powV, negV, lenV, intV, absI, enumV, iterV, PD.slV, boolV, truthV, ltD, revA, ltV, gtV, leV, geV, isV, isNone, Bool.false_xor, Bool.true_xor, Bool.not_true, Bool.not_false, Bool.and_true, Bool.true_and, Bool.and_false, Bool.false_and, decide_true, decide_false, decide_eq_true_eq, Bool.and_eq_true, if_true, if_false, reduceIte, Bool.false_eq_true, Str.empty_append, List.length_append, ite_true, ite_false, true_and, and_true, Int.cast_ofNat_Int, Nat.reduceAdd, Nat.reduceSub, Nat.reduceLT, Int.reduceLT, Int.reduceSub, Int.reduceAdd, Int.reduceNeg, Int.reduceLE, Int.reduceToNat, Nat.lt_add_one])
local macro_rules
  | `(tactic| walk_at "g") => `(tactic| simp only [sSeq, ssat_next, ssat_toS, ssat_nx, ssat_rt, ssat_bk, ssat_ct, ssat_bad, ssat_ite, if_false_right, sat_ok, sat_bad, sat_exc, sat_bind, sat_ite, sPutO, sPutI, sPutD, eD, ownD, sAsg, fE, sIf, sNx, sRet, sDrop, sOwn, sApp, sExt, sPar, sFor, e1, e2, eV, eC, eA, eA1, aC, aN, eSl, oN, oS, eP, eM1, eIf, eCall, eChain, eJ, jC, jN, bB, bTr, bAnd, bOr, bNot, eAnd, eOr, eNot, bYes, iSeq, iA, ofG, ofO, fmtV, strV, tupleV, listV, iaddV, PD.eq_int, PD.eq_str, eq_self, gSet, ggNil, ggCons, ggTup, mkTup, mkLst, mkObj, asDs, asD, ownL,
      List.map_cons, List.map_nil, List.cons_append, List.nil_append, List.length_cons, List.length_nil, List.length_set, List.replicate, List.getElem?_cons_succ, List.getElem?_cons_zero, List.getElem?_nil, List.set_cons_succ, List.set_cons_zero, List.all_cons, List.all_nil, setAll, ixT0, ixT1, ixT2, ixL0, ixL1, ixL2, Option.map_some, Option.map_none, Option.bind_some, Option.bind_none,
      addV, subV, mulV, modV, divV, powV, negV, lenV, intV, absI, enumV, iterV, PD.slV, boolV, truthV, ltD, revA, ltV, gtV, leV, geV, isV, isNone, Bool.false_xor, Bool.true_xor, Bool.not_true, Bool.not_false, Bool.and_true, Bool.true_and, Bool.and_false, Bool.false_and, decide_true, decide_false, decide_eq_true_eq, Bool.and_eq_true, if_true, if_false, reduceIte, Bool.false_eq_true, Str.empty_append, List.length_append, ite_true, ite_false, true_and, and_true, Int.cast_ofNat_Int, Nat.reduceAdd, Nat.reduceSub, Nat.reduceLT, Int.reduceLT, Int.reduceSub, Int.reduceAdd, Int.reduceNeg, Int.reduceLE, Int.reduceToNat, Nat.lt_add_one, beq_iff_eq, sizeLine_eq, Nat.reduceLeDiff, inV_tup, inV_lst, eqv_str, eqv_int, eqV_nilT, cutD_tail, false_and, and_false, or_true, true_or, or_false, false_or, ixT3, Bool.true_eq_false, Bool.or_eq_false_iff, decide_eq_false_iff_not, Int.not_le, Int.not_lt, beq_self_eq_true, Int.reduceBEq, Bool.not_eq_eq_eq_not, beq_eq_false_iff_ne, ne_eq, not_true_eq_false, not_false_eq_true, List.isEmpty_cons, List.isEmpty_nil, List.any_cons, List.any_nil, Bool.or_false, Bool.or_eq_true, isaV, PyData.isInt, PyData.isStr, PyData.isBool, PyData.isTuple, PyData.isList, PyData.isDict, m__law_signs_1_E, m__law_signs_2_E, m__law_signs_3_E, m__law_signs_4_E, m__law_signs_E])
local macro_rules
  | `(tactic| walk_at "gt") => `(tactic| try walk_at "go")
local macro_rules
  | `(tactic| walk_at "gq") => `(tactic| try walk_at "g0")
local macro_rules
  | `(tactic| walk_at "len") => `(tactic| (simp only [Str.length_append, PySem.ofString_length, len_nil, sizeLine_eq] at *; omega))
local macro_rules
  | `(tactic| walk_at "fin") => `(tactic| ((repeat' apply And.intro) <;> first | assumption | exact True.intro | walk_at "len" | rfl))
local macro_rules
  | `(tactic| walk_at "start") => `(tactic| (rw [sat_body]; simp only [List.map_cons, List.map_nil, List.cons_append, List.nil_append, List.length_cons, List.length_nil, Nat.reduceAdd, Nat.reduceSub, List.replicate]))
local macro_rules
  | `(tactic| walk_at "wd") => `(tactic| first | assumption | exact Wd.none | exact Wd.bool | exact Wd.small (by decide) (by decide) | exact Wd.lit (by decide) | exact Wd.dict0 | exact Wd.tup Wds.nil | exact Wd.lst Wds.nil | (refine Wd.t1 (k := 2) (a := 990) ?_ (by decide) <;> walk_at "wd") | (refine Wd.t2 (k := 2) (a := 990) (b := 990) ?_ ?_ (by decide) <;> walk_at "wd") | (refine Wd.t3 (k := 2) (a := 990) (b := 990) (c := 990) ?_ ?_ ?_ (by decide) <;> walk_at "wd") | (refine Wd.t4 (k := 2) (a := 990) (b := 990) (c := 990) (e := 990) ?_ ?_ ?_ ?_ (by decide) <;> walk_at "wd") | (refine Wd.t1 (k := 1) (a := 240) ?_ (by decide) <;> walk_at "wd") | (refine Wd.t2 (k := 1) (a := 240) (b := 240) ?_ ?_ (by decide) <;> walk_at "wd") | (refine Wd.t3 (k := 1) (a := 240) (b := 240) (c := 240) ?_ ?_ ?_ (by decide) <;> walk_at "wd") | (refine Wd.t4 (k := 1) (a := 240) (b := 240) (c := 240) (e := 240) ?_ ?_ ?_ ?_ (by decide) <;> walk_at "wd") | (refine Wd.t1 (k := 0) (a := 55) ?_ (by decide) <;> walk_at "wd") | (refine Wd.t2 (k := 0) (a := 55) (b := 55) ?_ ?_ (by decide) <;> walk_at "wd") | (refine Wd.t3 (k := 0) (a := 55) (b := 55) (c := 55) ?_ ?_ ?_ (by decide) <;> walk_at "wd") | (refine Wd.t4 (k := 0) (a := 55) (b := 55) (c := 55) (e := 55) ?_ ?_ ?_ ?_ (by decide) <;> walk_at "wd"))
theorem bdg_lw : ∀ c ∈ (Str.ofString "bdgkpx").cps.toList, 97 ≤ c ∧ c ≤ 122 := by decide +kernel
theorem bdg_len : (Str.ofString "bdgkpx").cps.toList.length = 6 := by decide +kernel
def signAt (l r : Str) (k : Nat) : Str := l ++ ⟨#[(Str.ofString "bdgkpx").cps.toList.getD k 0]⟩ ++ r
def signsOf (l r : Str) (n : Nat) : List PyData := (List.range n).map fun k => .str (signAt l r k)
theorem sign_lw {l r : Str} {k : Nat} (hl : Lw 3 l) (hr : Lw 4 r) (hk : k < 6) : Lw 8 (signAt l r k) := by
  have e : (Str.ofString "bdgkpx").cps.toList.getD k 0 ∈ (Str.ofString "bdgkpx").cps.toList := by
    rw [List.getD_eq_getElem?_getD, List.getElem?_eq_getElem (by rw [bdg_len]; exact hk)]
    exact List.getElem_mem _
  exact ((hl.app (Lw.one (bdg_lw _ e))).app hr).mono (by decide)
theorem letters_ok {rest : Store} {n k : Int} {S : Store} {fr : Fr} {b : Nat} (D : Deck rest n S) (hn : n ≤ 1000000000) (k0 : 0 ≤ k) (k1 : k ≤ b) (hb : b ≤ 100) (hf : ∃ x2 x3 x4 x1 x5, fr = [some (.obj 1), x1, some (.d (.str "abcdefghijklmnopqrstuvwxyz")), x3, x4, x5] ∧ x2 = x3) {Q : List PyData → Store → Prop} {X : Exc → Store → Prop}
    (h : ∀ (ts : List Str) S, (∀ t ∈ ts, Lw 1 t) → ts.length ≤ b → Deck rest (n + b) S → Q (ts.map .str) S) : (compF (gSet 5) bYes (eCall 2 F__law_one (aC (eV 0) (aC (eV 2) (aN)))) [5] fr (rngL 0 k) S []).sat Q X := by
  obtain ⟨_, x3, x4, x1, x5, rfl, _⟩ := hf
  refine sat_crng (fun j S acc => Deck rest (n + j) S ∧ ∀ d ∈ acc, ∃ s, d = .str s ∧ Lw 1 s) ⟨by simpa using D, by simp⟩ (fun j S acc hj ha h => ?_) (by omega) fun S acc ha h2 => ?_
  · refine ⟨_, rfl, ?_⟩
    simp only [wipeF]
    walk_at "go"
    refine (one_str h.1 (by omega) (by decide) (by decide)).on fun v S ⟨c, hc, e, D⟩ => ?_
    refine ⟨_, e, D.mono (by omega), fun d hd => ?_⟩
    rcases List.mem_append.mp hd with q | q
    · exact h.2 d q
    · rw [List.mem_singleton.mp q]
      exact ⟨_, rfl, Lw.one (abc_lw c hc)⟩
  · obtain ⟨ts, rfl, ht⟩ := strs_of_all h2.2
    rw [List.length_map] at ha
    exact h ts S ht (by omega) (h2.1.mono (by omega))
theorem signs_ok {rest : Store} {n many : Int} {S : Store} (D : Deck rest n S) (hn : n ≤ 900000000) (h0 : 0 ≤ many) (h1 : many ≤ 6) :
    (F__law_signs [.obj 1, .d (.int many)] S).sat (fun v S' => ∃ l r, Lw 3 l ∧ Lw 4 r ∧ v = .d (.list (signsOf l r many.toNat)) ∧ Deck rest (n + 9) S') NoX := by
  have sz : sizeLine = 16777216 := sizeLine_eq
  unfold F__law_signs
  walk_at "start"
  unfold m__law_signs
  refine seq_sat (fun fr S => fr = [some (.obj 1), some (.d (.int many)), some (.d (.str "abcdefghijklmnopqrstuvwxyz")), none, none, none] ∧ Deck rest n S) ?_ ?_
  · simp only [m__law_signs_1]
    walk_at "go"
    exact D
  rintro _ S ⟨rfl, D⟩
  refine seq_sat (fun fr S => ∃ l, Lw 3 l ∧ fr = [some (.obj 1), some (.d (.int many)), some (.d (.str "abcdefghijklmnopqrstuvwxyz")), some (.d (.str l)), none, none] ∧ Deck rest (n + 4) S) ?_ ?_
  · simp only [m__law_signs_2]
    walk_at "go"
    simp only [eLc]
    walk_at "go"
    refine (draw_ok D (by omega) (by decide) (by decide)).on fun v S ⟨q, e, q0, q1, D⟩ => ?_
    subst e
    rw [rng1_ok (by omega) (by omega)]
    walk_at "go"
    refine letters_ok (b := 3) D (by omega) q0 (by omega) (by decide) ⟨_, _, _, _, _, rfl, rfl⟩ fun ts S ht hl D => ?_
    rw [join_ok (n := 1) (m := 0) Tx.lit (fun t h => (ht t h).tx) (by omega)]
    walk_at "go"
    exact ⟨_, Lw.join0 ht hl, rfl, D.mono (by omega)⟩
  rintro _ S ⟨l, hl, rfl, D⟩
  refine seq_sat (fun fr S => ∃ r, Lw 4 r ∧ fr = [some (.obj 1), some (.d (.int many)), some (.d (.str "abcdefghijklmnopqrstuvwxyz")), some (.d (.str l)), some (.d (.str r)), none] ∧ Deck rest (n + 9) S) ?_ ?_
  · simp only [m__law_signs_3]
    walk_at "go"
    simp only [eLc]
    walk_at "go"
    refine (draw_ok D (by omega) (by decide) (by decide)).on fun v S ⟨q, e, q0, q1, D⟩ => ?_
    subst e
    rw [rng1_ok (by omega) (by omega)]
    walk_at "go"
    refine letters_ok (b := 4) D (by omega) q0 (by omega) (by decide) ⟨_, _, _, _, _, rfl, rfl⟩ fun ts S ht hl D => ?_
    rw [join_ok (n := 1) (m := 0) Tx.lit (fun t h => (ht t h).tx) (by omega)]
    walk_at "go"
    exact ⟨_, Lw.join0 ht hl, rfl, D.mono (by omega)⟩
  rintro _ S ⟨r, hr, rfl, D⟩
  simp only [m__law_signs_4]
  walk_at "go"
  simp only [eLc]
  walk_at "go"
  rw [rng1_ok (by omega) (by omega)]
  walk_at "go"
  refine sat_crng (fun j S acc => Deck rest (n + 9) S ∧ acc = signsOf l r j) ⟨D, rfl⟩ (fun j S acc hj ha h => ?_) (by omega) fun S acc ha h => ?_
  · obtain ⟨D, rfl⟩ := h
    refine ⟨_, rfl, ?_⟩
    simp only [wipeF]
    walk_at "go"
    have hb := bdg_len
    rw [if_pos (show (0 : Int) ≤ (j : Nat) by omega), if_pos (show ((j : Nat) : Int) < (Str.ofString "bdgkpx").cps.toList.length by omega), Option.bind_some, show ((j : Nat) : Int).toNat = j from rfl, List.getElem?_eq_getElem (by omega)]
    walk_at "go"
    have l1 := hl.1
    have r1 := hr.1
    refine ⟨by decide, by rw [Str1.len]; omega, by rw [Str.length_append, Str1.len]; omega, _, rfl, D, ?_⟩
    unfold signsOf
    rw [List.range_succ, List.map_append]
    unfold signAt
    rw [List.map_cons, List.map_nil, List.getD_eq_getElem?_getD, List.getElem?_eq_getElem (by omega)]
    rfl
  · obtain ⟨D, rfl⟩ := h
    exact ⟨l, r, hl, hr, rfl, D⟩
theorem sign_sn {l r : Str} {k : Nat} (hl : Lw 3 l) (hr : Lw 4 r) (hk : k < 6) : Sn (signAt l r k) := by
  refine ⟨sign_lw hl hr hk, ?_⟩
  unfold signAt
  rw [Str.length_append, Str.length_append, Str1.len]
  omega
theorem signs_ok2 {rest : Store} {n many : Int} {S : Store} (D : Deck rest n S) (hn : n ≤ 900000000) (h0 : 0 ≤ many) (h1 : many ≤ 6) :
    (F__law_signs [.obj 1, .d (.int many)] S).sat (fun v S' => ∃ ts : List Str, v = .d (.list (ts.map .str)) ∧ ts.length = many.toNat ∧ (∀ t ∈ ts, Sn t) ∧ Deck rest (n + 9) S') NoX :=
  (signs_ok D hn h0 h1).on fun v S' ⟨l, r, hl, hr, e, D⟩ => ⟨(List.range many.toNat).map (signAt l r), by rw [e, signsOf, List.map_map]; rfl, by simp, fun t ht => by
    obtain ⟨k, hk, rfl⟩ := List.mem_map.mp ht
    rw [List.mem_range] at hk
    exact sign_sn hl hr (by omega), D⟩
end Wk
namespace Wk
open PySem PySem.Spec PyProof.Rows L2 PD
def m__law_plan_1 : SM := sOwn 3 7 (eA mkLst (aN))
def m__law_plan_3 : SM := sOwn 5 7 (eA mkLst (aN))
def m__law_plan_5 : SM := sApp 5 (eIf (bB (e2 gtV (eCall 2 F__law_draw (aC (eV 0) (aC (eC (.int 3)) (aN)))) (eC (.int 0)))) (e2 subV (eV 4) (eC (.int 1))) (eCall 2 F__law_draw (aC (eV 0) (aC (eV 4) (aN)))))
def m__law_plan_4 : SM := sFor (gSet 6) (iA rng1V (aC (eIf (bB (e2 gtV (eV 4) (eC (.int 0)))) (eCall 2 F__law_draw (aC (eV 0) (aC (eC (.int 3)) (aN)))) (eC (.int 0))) (aN)))
    (m__law_plan_5)
def m__law_plan_6 : SM := sApp 3 (eA mkTup (aC (eCall 2 F__law_one (aC (eV 0) (aC (eV 1) (aN)))) (aC (eA1 tupleV (eP 5)) (aN))))
def m__law_plan_2 : SM := sFor (gSet 4) (iA rng1V (aC (eV 2) (aN)))
    (sSeq m__law_plan_3 (sSeq m__law_plan_4 m__law_plan_6))
def m__law_plan_7 : SM := sRet (eA1 tupleV (eP 3))
def m__law_plan : SM := sSeq m__law_plan_1 (sSeq m__law_plan_2 m__law_plan_7)
theorem m__law_plan_1_E {fr : Fr} {S : Store} : m__law_plan_1 fr S = (sOwn 3 7 (eA mkLst (aN))) fr S := rfl
theorem m__law_plan_3_E {fr : Fr} {S : Store} : m__law_plan_3 fr S = (sOwn 5 7 (eA mkLst (aN))) fr S := rfl
theorem m__law_plan_5_E {fr : Fr} {S : Store} : m__law_plan_5 fr S = (sApp 5 (eIf (bB (e2 gtV (eCall 2 F__law_draw (aC (eV 0) (aC (eC (.int 3)) (aN)))) (eC (.int 0)))) (e2 subV (eV 4) (eC (.int 1))) (eCall 2 F__law_draw (aC (eV 0) (aC (eV 4) (aN)))))) fr S := rfl
theorem m__law_plan_4_E {fr : Fr} {S : Store} : m__law_plan_4 fr S = (sFor (gSet 6) (iA rng1V (aC (eIf (bB (e2 gtV (eV 4) (eC (.int 0)))) (eCall 2 F__law_draw (aC (eV 0) (aC (eC (.int 3)) (aN)))) (eC (.int 0))) (aN)))
    (m__law_plan_5)) fr S := rfl
theorem m__law_plan_6_E {fr : Fr} {S : Store} : m__law_plan_6 fr S = (sApp 3 (eA mkTup (aC (eCall 2 F__law_one (aC (eV 0) (aC (eV 1) (aN)))) (aC (eA1 tupleV (eP 5)) (aN))))) fr S := rfl
theorem m__law_plan_2_E {fr : Fr} {S : Store} : m__law_plan_2 fr S = (sFor (gSet 4) (iA rng1V (aC (eV 2) (aN)))
    (sSeq m__law_plan_3 (sSeq m__law_plan_4 m__law_plan_6))) fr S := rfl
theorem m__law_plan_7_E {fr : Fr} {S : Store} : m__law_plan_7 fr S = (sRet (eA1 tupleV (eP 3))) fr S := rfl
theorem m__law_plan_E {fr : Fr} {S : Store} : m__law_plan fr S = (sSeq m__law_plan_1 (sSeq m__law_plan_2 m__law_plan_7)) fr S := rfl
def F__law_plan : FN := bodyF 7 m__law_plan
local macro_rules
  | `(tactic| walk_at "go") => `(tactic| simp only [sSeq, ssat_next, ssat_toS, ssat_nx, ssat_rt, ssat_bk, ssat_ct, ssat_bad, ssat_ite, if_false_right, sat_ok, sat_bad, sat_exc, sat_bind, sat_ite, sPutO, sPutI, sPutD, eD, ownD, sAsg, fE, sIf, sNx, sRet, sDrop, sOwn, sApp, sExt, sPar, sFor, e1, e2, eV, eC, eA, eA1, aC, aN, eSl, oN, oS, eP, eM1, eIf, eCall, eChain, eJ, jC, jN, bB, bTr, bAnd, bOr, bNot, eAnd, eOr, eNot, bYes, iSeq, iA, ofG, ofO, fmtV, strV, tupleV, listV, iaddV, PD.eq_int, PD.eq_str, eq_self, gSet, ggNil, ggCons, ggTup, mkTup, mkLst, mkObj, asDs, asD, ownL,
      List.map_cons, List.map_nil, List.cons_append, List.nil_append, List.length_cons, List.length_nil, List.length_set, List.replicate, List.getElem?_cons_succ, List.getElem?_cons_zero, List.getElem?_nil, List.set_cons_succ, List.set_cons_zero, List.all_cons, List.all_nil, setAll, Option.map_some, Option.map_none, Option.bind_some, Option.bind_none,
      ixV, addV, subV, mulV, modV, divV, powV, negV, lenV, intV, absI, enumV, iterV, PD.slV, boolV, truthV, ltD, revA, ltV, gtV, leV, geV, isV, isNone, L2.atI, ixN, Bool.false_xor, Bool.true_xor, Bool.not_true, Bool.not_false, Bool.and_true, Bool.true_and, Bool.and_false, Bool.false_and, decide_true, decide_false, decide_eq_true_eq, Bool.and_eq_true, if_true, if_false, reduceIte, Bool.false_eq_true, Str.empty_append, List.length_append, ite_true, ite_false, true_and, and_true, Int.cast_ofNat_Int, Nat.reduceAdd, Nat.reduceSub, Nat.reduceLT, Int.reduceLT, Int.reduceLE, Int.reduceToNat, Nat.lt_add_one])
local macro_rules
  | `(tactic| walk_at "g0") => `(tactic| simp only [sSeq, ssat_next, ssat_toS, ssat_nx, ssat_rt, ssat_bk, ssat_ct, ssat_bad, ssat_ite, if_false_right, sat_ok, sat_bad, sat_exc, sat_bind, sat_ite, sPutO, sPutI, sPutD, eD, ownD, sAsg, fE, sIf, sNx, sRet, sDrop, sOwn, sApp, sExt, sPar, sFor, e1, e2, eV, eC, eA, eA1, aC, aN, eSl, oN, oS, eP, eM1, eIf, eCall, eChain, eJ, jC, jN, bB, bTr, bAnd, bOr, bNot, eAnd, eOr, eNot, bYes, iSeq, iA, ofG, ofO, fmtV, strV, tupleV, listV, iaddV, PD.eq_int, PD.eq_str, eq_self, gSet, ggNil, ggCons, ggTup, mkTup, mkLst, mkObj, asDs, asD, ownL,
      List.map_cons, List.map_nil, List.cons_append, List.nil_append, List.length_cons, List.length_nil, List.length_set, List.replicate, List.getElem?_cons_succ, List.getElem?_cons_zero, List.getElem?_nil, List.set_cons_succ, List.set_cons_zero, List.all_cons, List.all_nil, setAll, ixT0, ixT1, ixT2, ixL0, ixL1, ixL2, Option.map_some, Option.map_none, Option.bind_some, Option.bind_none,
      addV, subV, mulV, modV, divV, powV, negV, lenV, intV, absI, enumV, iterV, PD.slV, boolV, truthV, ltD, revA, ltV, gtV, leV, geV, isV, isNone, Bool.false_xor, Bool.true_xor, Bool.not_true, Bool.not_false, Bool.and_true, Bool.true_and, Bool.and_false, Bool.false_and, decide_true, decide_false, decide_eq_true_eq, Bool.and_eq_true, if_true, if_false, reduceIte, Bool.false_eq_true, Str.empty_append, List.length_append, ite_true, ite_false, true_and, and_true, Int.cast_ofNat_Int, Nat.reduceAdd, Nat.reduceSub, Nat.reduceLT, Int.reduceLT, Int.reduceLE, Int.reduceToNat, Nat.lt_add_one])
local macro_rules
  | `(tactic| walk_at "g1") => `(tactic| simp only [sSeq, ssat_next, ssat_toS, ssat_nx, ssat_rt, ssat_bk, ssat_ct, ssat_bad, ssat_ite, if_false_right, sat_ok, sat_bad, sat_exc, sat_bind, sat_ite, sPutO, sPutI, sPutD, eD, ownD, sAsg, fE, sIf, sNx, sRet, sDrop, sOwn, sApp, sExt, sPar, sFor, e1, e2, eV, eC, eA, eA1, aC, aN, eSl, oN, oS, eP, eM1, eIf, eCall, eChain, eJ, jC, jN, bB, bTr, bAnd, bOr, bNot, eAnd, eOr, eNot, bYes, iSeq, iA, ofG, ofO, fmtV, strV, tupleV, listV, iaddV, PD.eq_int, PD.eq_str, eq_self, gSet, ggNil, ggCons, ggTup, mkTup, mkLst, mkObj, asDs, asD, ownL,
      List.map_cons, List.map_nil, List.cons_append, List.nil_append, List.length_cons, List.length_nil, List.length_set, List.replicate, List.getElem?_cons_succ, List.getElem?_cons_zero, List.getElem?_nil, List.set_cons_succ, List.set_cons_zero, List.all_cons, List.all_nil, setAll, ixT0, ixT1, ixT2, ixL0, ixL1, ixL2, Option.map_some, Option.map_none, Option.bind_some, Option.bind_none,
      addV, subV, mulV, modV, divV, powV, negV, lenV, intV, absI, enumV, iterV, PD.slV, boolV, truthV, ltD, revA, ltV, gtV, leV, geV, isV, isNone, Bool.false_xor, Bool.true_xor, Bool.not_true, Bool.not_false, Bool.and_true, Bool.true_and, Bool.and_false, Bool.false_and, decide_true, decide_false, decide_eq_true_eq, Bool.and_eq_true, if_true, if_false, reduceIte, Bool.false_eq_true, Str.empty_append, List.length_append, ite_true, ite_false, true_and, and_true, Int.cast_ofNat_Int, Nat.reduceAdd, Nat.reduceSub, Nat.reduceLT, Int.reduceLT, Int.reduceSub, Int.reduceAdd, Int.reduceNeg, Int.reduceLE, Int.reduceToNat, Nat.lt_add_one])
local macro_rules
  | `(tactic| walk_at "g") => `(tactic| simp only [sSeq, ssat_next, ssat_toS, ssat_nx, ssat_rt, ssat_bk, ssat_ct, ssat_bad, ssat_ite, if_false_right, sat_ok, sat_bad, sat_exc, sat_bind, sat_ite, sPutO, sPutI, sPutD, sAug, eD, ownD, sAsg, fE, sIf, sNx, sRet, sDrop, sOwn, sApp, sExt, sPar, sFor, e1, e2, eV, eC, eA, eA1, aC, aN, eSl, oN, oS, eP, eM1, eIf, eCall, eChain, eJ, jC, jN, bB, bTr, bAnd, bOr, bNot, eAnd, eOr, eNot, bYes, iSeq, iA, ofG, ofO, fmtV, strV, tupleV, listV, iaddV, PD.eq_int, PD.eq_str, eq_self, gSet, ggNil, ggCons, ggTup, mkTup, mkLst, mkObj, asDs, asD, ownL,
      List.map_cons, List.map_nil, List.cons_append, List.nil_append, List.length_cons, List.length_nil, List.length_set, List.replicate, List.getElem?_cons_succ, List.getElem?_cons_zero, List.getElem?_nil, List.set_cons_succ, List.set_cons_zero, List.all_cons, List.all_nil, setAll, ixT0, ixT1, ixT2, ixL0, ixL1, ixL2, Option.map_some, Option.map_none, Option.bind_some, Option.bind_none,
      addV, subV, mulW, mulV, modV, divV, powV, negV, lenV, intV, absI, enumV, iterV, PD.slV, boolV, truthV, ltD, revA, ltV, gtV, leV, geV, isV, isNone, Bool.false_xor, Bool.true_xor, Bool.not_true, Bool.not_false, Bool.and_true, Bool.true_and, Bool.and_false, Bool.false_and, decide_true, decide_false, decide_eq_true_eq, Bool.and_eq_true, if_true, if_false, reduceIte, Bool.false_eq_true, Str.empty_append, List.length_append, ite_true, ite_false, true_and, and_true, Int.cast_ofNat_Int, Nat.reduceAdd, Nat.reduceSub, Nat.reduceLT, Int.reduceLT, Int.reduceSub, Int.reduceAdd, Int.reduceNeg, Int.reduceLE, Int.reduceToNat, Nat.lt_add_one, beq_iff_eq, sizeLine_eq, Nat.reduceLeDiff, inV_tup, inV_lst, eqv_str, eqv_int, eqV_nilT, cutD_tail, false_and, and_false, or_true, true_or, or_false, false_or, ixT3, Bool.true_eq_false, Bool.or_eq_false_iff, decide_eq_false_iff_not, Int.not_le, Int.not_lt, beq_self_eq_true, Int.reduceBEq, Bool.not_eq_eq_eq_not, beq_eq_false_iff_ne, ne_eq, not_true_eq_false, not_false_eq_true, List.isEmpty_cons, List.isEmpty_nil, List.any_cons, List.any_nil, Bool.or_false, Bool.or_eq_true, isaV, PyData.isInt, PyData.isStr, PyData.isBool, PyData.isTuple, PyData.isList, PyData.isDict, m__law_plan_1_E, m__law_plan_3_E, m__law_plan_5_E, m__law_plan_4_E, m__law_plan_6_E, m__law_plan_2_E, m__law_plan_7_E, m__law_plan_E])
local macro_rules
  | `(tactic| walk_at "gt") => `(tactic| try walk_at "go")
local macro_rules
  | `(tactic| walk_at "gq") => `(tactic| try walk_at "g0")
local macro_rules
  | `(tactic| walk_at "len") => `(tactic| (simp only [Str.length_append, PySem.ofString_length, len_nil, sizeLine_eq] at *; omega))
local macro_rules
  | `(tactic| walk_at "fin") => `(tactic| ((repeat' apply And.intro) <;> first | assumption | exact True.intro | walk_at "len" | rfl))
local macro_rules
  | `(tactic| walk_at "start") => `(tactic| (rw [sat_body]; simp only [List.map_cons, List.map_nil, List.cons_append, List.nil_append, List.length_cons, List.length_nil, Nat.reduceAdd, Nat.reduceSub, List.replicate]))
local macro_rules
  | `(tactic| walk_at "wd") => `(tactic| first | assumption | exact Wd.none | exact Wd.bool | exact Wd.small (by decide) (by decide) | exact Wd.lit (by decide) | exact Wd.dict0 | exact Wd.tup Wds.nil | exact Wd.lst Wds.nil | (refine Wd.t1 (k := 2) (a := 990) ?_ (by decide) <;> walk_at "wd") | (refine Wd.t2 (k := 2) (a := 990) (b := 990) ?_ ?_ (by decide) <;> walk_at "wd") | (refine Wd.t3 (k := 2) (a := 990) (b := 990) (c := 990) ?_ ?_ ?_ (by decide) <;> walk_at "wd") | (refine Wd.t4 (k := 2) (a := 990) (b := 990) (c := 990) (e := 990) ?_ ?_ ?_ ?_ (by decide) <;> walk_at "wd") | (refine Wd.t1 (k := 1) (a := 240) ?_ (by decide) <;> walk_at "wd") | (refine Wd.t2 (k := 1) (a := 240) (b := 240) ?_ ?_ (by decide) <;> walk_at "wd") | (refine Wd.t3 (k := 1) (a := 240) (b := 240) (c := 240) ?_ ?_ ?_ (by decide) <;> walk_at "wd") | (refine Wd.t4 (k := 1) (a := 240) (b := 240) (c := 240) (e := 240) ?_ ?_ ?_ ?_ (by decide) <;> walk_at "wd") | (refine Wd.t1 (k := 0) (a := 55) ?_ (by decide) <;> walk_at "wd") | (refine Wd.t2 (k := 0) (a := 55) (b := 55) ?_ ?_ (by decide) <;> walk_at "wd") | (refine Wd.t3 (k := 0) (a := 55) (b := 55) (c := 55) ?_ ?_ ?_ (by decide) <;> walk_at "wd") | (refine Wd.t4 (k := 0) (a := 55) (b := 55) (c := 55) (e := 55) ?_ ?_ ?_ ?_ (by decide) <;> walk_at "wd"))
local macro_rules
  | `(tactic| walk_at "c") => `(tactic| simp only [eFld, sFldS, sAppO, eMeth, eMake, sSeq, ssat_next, ssat_toS, ssat_nx, ssat_rt, ssat_bk, ssat_ct, ssat_bad, ssat_ite, if_false_right, sat_ok, sat_bad, sat_exc, sat_bind, sat_ite, sPutO, sPutI, sPutD, sAug, eD, ownD, sAsg, fE, sIf, sNx, sRet, sDrop, sOwn, sApp, sExt, sPar, sFor, e1, e2, eV, eC, eA, eA1, aC, aN, eSl, oN, oS, eP, eM1, eIf, eCall, eChain, eJ, jC, jN, bB, bTr, bAnd, bOr, bNot, eAnd, eOr, eNot, bYes, iSeq, iA, ofG, ofO, fmtV, strV, tupleV, listV, iaddV, PD.eq_int, PD.eq_str, eq_self, gSet, ggNil, ggCons, ggTup, mkTup, mkLst, mkObj, asDs, asD, ownL,
      List.map_cons, List.map_nil, List.cons_append, List.nil_append, List.length_cons, List.length_nil, List.length_set, List.replicate, List.getElem?_cons_succ, List.getElem?_cons_zero, List.getElem?_nil, List.set_cons_succ, List.set_cons_zero, List.all_cons, List.all_nil, setAll, ixT0, ixT1, ixT2, ixL0, ixL1, ixL2, Option.map_some, Option.map_none, Option.bind_some, Option.bind_none,
      addV, subV, mulW, mulV, modV, divV, powV, negV, lenV, intV, absI, enumV, iterV, PD.slV, boolV, truthV, ltD, revA, ltV, gtV, leV, geV, isV, isNone, Bool.false_xor, Bool.true_xor, Bool.not_true, Bool.not_false, Bool.and_true, Bool.true_and, Bool.and_false, Bool.false_and, decide_true, decide_false, decide_eq_true_eq, Bool.and_eq_true, if_true, if_false, reduceIte, Bool.false_eq_true, Str.empty_append, List.length_append, ite_true, ite_false, true_and, and_true, Int.cast_ofNat_Int, Nat.reduceAdd, Nat.reduceSub, Nat.reduceLT, Int.reduceLT, Int.reduceSub, Int.reduceAdd, Int.reduceNeg, Int.reduceLE, Int.reduceToNat, Nat.lt_add_one, beq_iff_eq, sizeLine_eq, Nat.reduceLeDiff, inV_tup, inV_lst, eqv_str, eqv_int, eqV_nilT, cutD_tail, false_and, and_false, or_true, true_or, or_false, false_or, ixT3, Bool.true_eq_false, Bool.or_eq_false_iff, decide_eq_false_iff_not, Int.not_le, Int.not_lt, beq_self_eq_true, Int.reduceBEq, Bool.not_eq_eq_eq_not, beq_eq_false_iff_ne, ne_eq, not_true_eq_false, not_false_eq_true, List.isEmpty_cons, List.isEmpty_nil, List.any_cons, List.any_nil, Bool.or_false, Bool.or_eq_true, isaV, PyData.isInt, PyData.isStr, PyData.isBool, PyData.isTuple, PyData.isList, PyData.isDict, m__law_plan_1_E, m__law_plan_3_E, m__law_plan_5_E, m__law_plan_4_E, m__law_plan_6_E, m__law_plan_2_E, m__law_plan_7_E, m__law_plan_E])
theorem plan_ok {n many : Int} {S : Store} {signs : List Str} {rest : Store} (D : Deck rest n S) (hn : n ≤ 900000000) (h0 : 1 ≤ many) (h1 : many ≤ 100) (hs : ∀ t ∈ signs, Sn t) (hs0 : signs ≠ []) (hs2 : signs.length ≤ 1000) :
    (F__law_plan [.obj 1, .d (.list (signs.map .str)), .d (.int many)] S).sat (fun v S' => ∃ P, v = .d (planD P) ∧ PlanWf P ∧ P.length = many.toNat ∧ Deck rest (n + 6 * many) S') NoX := by
  have sz : sizeLine = 16777216 := sizeLine_eq
  unfold F__law_plan
  walk_at "start"
  rw [m__law_plan_E]
  walk_at "g"
  rw [rng1_ok (by omega) (by omega)]
  walk_at "g"
  refine ssat_rng (fun j fr S => ∃ (P : Plan) (x4 x5 x6 : Option SV), fr = [some (.obj 1), some (.d (.list (signs.map .str))), some (.d (.int many)), some (.d (.list (P.map entD))), x4, x5, x6] ∧ PlanWf P ∧ P.length = j ∧ Deck rest (n + 6 * j) S)
    ⟨[], _, _, _, rfl, ⟨fun i e q => by simp at q⟩, rfl, by simpa using D⟩ (fun j fr S hj ⟨P, x4, x5, x6, e, hP, lP, D⟩ => ?_) fun fr S ⟨P, x4, x5, x6, e, hP, lP, D⟩ => ?_
  · subst e
    refine ⟨_, rfl, ?_⟩
    refine seq_sat (fun fr S' => S' = S ∧ fr = [some (.obj 1), some (.d (.list (signs.map .str))), some (.d (.int many)), some (.d (.list (P.map entD))), some (.d (.int (j : Nat))), some (.d (.list [])), x6]) ?_ ?_
    · walk_at "g"
    · rintro fr S' ⟨rfl, rfl⟩
      refine seq_sat (fun fr S' => ∃ (ns : List Nat) (y6 : Option SV), fr = [some (.obj 1), some (.d (.list (signs.map .str))), some (.d (.int many)), some (.d (.list (P.map entD))), some (.d (.int (j : Nat))), some (.d (.list (ns.map fun n => .int (n : Nat)))), y6] ∧ ns.length ≤ 2 ∧ (∀ n ∈ ns, n < j) ∧ Deck rest (n + 6 * j + 5) S') ?_ ?_
      · walk_at "g"
        have inner : ∀ {S : Store} {hi : Int}, Deck rest (n + 6 * j + 1) S → 0 ≤ hi → hi ≤ 2 → (0 < hi → 0 < j) →
            (forF (gSet 6) m__law_plan_5 (rngL 0 hi) [some (SV.obj 1), some (SV.d (PyData.list (List.map PyData.str signs))), some (SV.d (PyData.int many)), some (SV.d (PyData.list (List.map entD P))), some (SV.d (PyData.int (j : Nat))), some (SV.d (PyData.list [])), x6] S).sat ⟨fun fr S' => ∃ (ns : List Nat) (y6 : Option SV), fr = [some (.obj 1), some (.d (.list (signs.map .str))), some (.d (.int many)), some (.d (.list (P.map entD))), some (.d (.int (j : Nat))), some (.d (.list (ns.map fun n => .int (n : Nat)))), y6] ∧ ns.length ≤ 2 ∧ (∀ n ∈ ns, n < j) ∧ Deck rest (n + 6 * j + 5) S', no2, no2, fun _ _ => False, NoX⟩ := fun {S hi} D k0 k2 kj => by
          refine ssat_rng (fun k fr S => ∃ (ns : List Nat) (y6 : Option SV), fr = [some (.obj 1), some (.d (.list (signs.map .str))), some (.d (.int many)), some (.d (.list (P.map entD))), some (.d (.int (j : Nat))), some (.d (.list (ns.map fun n => .int (n : Nat)))), y6] ∧ ns.length = k ∧ (∀ n ∈ ns, n < j) ∧ Deck rest (n + 6 * j + 1 + 2 * k) S)
            ⟨[], _, rfl, rfl, by simp, D.mono (by omega)⟩ (fun k fr S hk ⟨ns, y6, e, lk, nl, D⟩ => ?_) fun fr S ⟨ns, y6, e, lk, nl, D⟩ => ⟨ns, y6, e, by omega, nl, D.mono (by omega)⟩
          subst e
          refine ⟨_, rfl, ?_⟩
          walk_at "g"
          refine (draw_ok D (by omega) (by decide) (by decide)).on fun v S ⟨q, e, q0, q1, D⟩ => ?_
          subst e
          walk_at "g"
          by_cases h : 0 < q
          · rw [if_pos h]
            have j0 := kj (by omega)
            refine ⟨by rw [List.length_map]; omega, ns ++ [j - 1], _, by rw [List.map_append, List.map_cons, List.map_nil, show ((j - 1 : Nat) : Int) = (j : Nat) - 1 by omega], by simp [lk], fun n hn => ?_, D.mono (by omega)⟩
            rcases List.mem_append.mp hn with hn | hn
            · exact nl n hn
            · rw [List.mem_singleton.mp hn]
              omega
          · rw [if_neg h]
            have j0 := kj (by omega)
            refine (draw_ok D (by omega) (by omega) (by omega)).on fun v S ⟨q, e, q0, q1, D⟩ => ?_
            subst e
            obtain ⟨q, rfl⟩ : ∃ q' : Nat, q = q' := ⟨q.toNat, by omega⟩
            walk_at "g"
            refine ⟨by rw [List.length_map]; omega, ns ++ [q], _, by rw [List.map_append]; rfl, by simp [lk], fun n hn => ?_, D.mono (by omega)⟩
            rcases List.mem_append.mp hn with hn | hn
            · exact nl n hn
            · rw [List.mem_singleton.mp hn]
              omega
        by_cases hj0 : (0 : Int) < (j : Nat)
        · rw [if_pos hj0]
          refine (draw_ok D (by omega) (by decide) (by decide)).on fun v S ⟨q, e, q0, q1, D⟩ => ?_
          subst e
          rw [rng1_ok (by omega) (by omega)]
          walk_at "g"
          exact (inner (D.mono (by omega)) q0 (by omega) (fun _ => by omega)).mono (fun _ _ z => z) (fun _ _ z => z.elim) (fun _ _ z => z.elim) (fun _ _ z => z.elim) (fun _ _ z => z)
        · rw [if_neg hj0]
          rw [rng1_ok (by omega) (by omega)]
          walk_at "g"
          exact (inner (D.mono (by omega)) (Int.le_refl 0) (by omega) (fun z => by omega)).mono (fun _ _ z => z) (fun _ _ z => z.elim) (fun _ _ z => z.elim) (fun _ _ z => z.elim) (fun _ _ z => z)
      · rintro fr S ⟨ns, y6, rfl, n2, nl, D⟩
        walk_at "g"
        refine (one_list D (by omega) (by simpa using hs0) (by simp; omega)).on fun v S ⟨d, h1, e, D⟩ => ?_
        subst e
        obtain ⟨t, ht, rfl⟩ := List.mem_map.mp h1
        walk_at "g"
        refine ⟨by rw [List.length_map]; omega, P ++ [(t, ns)], some (.d (.int (j : Nat))), some (.d (.list (ns.map fun n => .int (n : Nat)))), y6, by rw [List.map_append]; rfl, ⟨fun i e q => ?_⟩, by simp [lP], D.mono (by omega)⟩
        by_cases hi : i < P.length
        · rw [List.getElem?_append_left hi] at q
          exact hP.at_ i e q
        · have li := (List.getElem?_eq_some_iff.mp q).1
          have : i = P.length := by simp at li; omega
          subst this
          rw [List.getElem?_append_right (Nat.le_refl _), Nat.sub_self] at q
          cases q
          exact ⟨hs t ht, n2, fun n hn => by rw [lP]; exact nl n hn⟩
  · subst e
    show Rs.sat _ _ _
    walk_at "g"
    exact ⟨P, rfl, hP, lP, D.mono (by omega)⟩
theorem Deck.more {rest more : Store} {n : Int} {S : Store} (D : Deck rest n S) : Deck (rest ++ more) n (S ++ more) := by
  obtain ⟨cs, c, rfl, pos, c0, c1⟩ := D
  exact ⟨cs, c, rfl, pos, c0, c1⟩
end Wk
namespace Wk
open PySem PySem.Spec PyProof.Rows L2 PD
def m__law_robot_1 : SM := sPar [4, 5] 11 (aC (e2 addV (eC (.int 1)) (eCall 2 F__law_draw (aC (eV 0) (aC (eV 3) (aN))))) (aC (eA mkLst (aN)) (aN)))
def m__law_robot_3 : SM := sOwn 7 11 (eA mkLst (aN))
def m__law_robot_5 : SM := sAsg (gSet 9) (fE (eA mkTup (aC (eC (.str "go")) (aC (eCall 2 F__law_draw (aC (eV 0) (aC (eC (.int 3)) (aN)))) (aC (eCall 2 F__law_draw (aC (eV 0) (aC (eV 4) (aN)))) (aN))))))
def m__law_robot_7 : SM := sAsg (gSet 9) (fE (eA mkTup (aC (eC (.str "stop")) (aC (eCall 2 F__law_one (aC (eV 0) (aC (eV 2) (aN)))) (aN)))))
def m__law_robot_6 : SM := sIf (bB (e2 (eqV false) (eCall 2 F__law_draw (aC (eV 0) (aC (eC (.int 5)) (aN)))) (eC (.int 0)))) (m__law_robot_7) (sNx)
def m__law_robot_8 : SM := sAsg (gSet 10) (fE (eIf (bB (e2 (eqV false) (eCall 2 F__law_draw (aC (eV 0) (aC (eC (.int 2)) (aN)))) (eC (.int 0)))) (eC .none) (eCall 2 F__law_one (aC (eV 0) (aC (eV 1) (aN))))))
def m__law_robot_9 : SM := sApp 7 (eA mkTup (aC (eV 10) (aC (eCall 2 F__law_one (aC (eV 0) (aC (eA mkLst (aC (eC .none) (aC (eC .none) (aC (eC (.int 1)) (aC (eC (.int 2)) (aC (eC (.int 3)) (aN))))))) (aN)))) (aC (eV 9) (aN)))))
def m__law_robot_4 : SM := sFor (gSet 8) (iA rng1V (aC (eCall 2 F__law_draw (aC (eV 0) (aC (eC (.int 6)) (aN)))) (aN)))
    (sSeq m__law_robot_5 (sSeq m__law_robot_6 (sSeq m__law_robot_8 m__law_robot_9)))
def m__law_robot_11 : SM := sApp 7 (eA mkTup (aC (eC .none) (aC (eC .none) (aC (eA mkTup (aC (eC (.str "go")) (aC (e2 addV (eC (.int 1)) (eCall 2 F__law_draw (aC (eV 0) (aC (eC (.int 2)) (aN))))) (aC (eCall 2 F__law_draw (aC (eV 0) (aC (eV 4) (aN)))) (aN))))) (aN)))))
def m__law_robot_10 : SM := sIf (bB (e2 gtV (eCall 2 F__law_draw (aC (eV 0) (aC (eC (.int 5)) (aN)))) (eC (.int 0)))) (m__law_robot_11) (sNx)
def m__law_robot_12 : SM := sApp 5 (eA1 tupleV (eP 7))
def m__law_robot_2 : SM := sFor (gSet 6) (iA rng1V (aC (eV 4) (aN)))
    (sSeq m__law_robot_3 (sSeq m__law_robot_4 (sSeq m__law_robot_10 m__law_robot_12)))
def m__law_robot_13 : SM := sRet (eA1 tupleV (eP 5))
def m__law_robot : SM := sSeq m__law_robot_1 (sSeq m__law_robot_2 m__law_robot_13)
theorem m__law_robot_1_E {fr : Fr} {S : Store} : m__law_robot_1 fr S = (sPar [4, 5] 11 (aC (e2 addV (eC (.int 1)) (eCall 2 F__law_draw (aC (eV 0) (aC (eV 3) (aN))))) (aC (eA mkLst (aN)) (aN)))) fr S := rfl
theorem m__law_robot_3_E {fr : Fr} {S : Store} : m__law_robot_3 fr S = (sOwn 7 11 (eA mkLst (aN))) fr S := rfl
theorem m__law_robot_5_E {fr : Fr} {S : Store} : m__law_robot_5 fr S = (sAsg (gSet 9) (fE (eA mkTup (aC (eC (.str "go")) (aC (eCall 2 F__law_draw (aC (eV 0) (aC (eC (.int 3)) (aN)))) (aC (eCall 2 F__law_draw (aC (eV 0) (aC (eV 4) (aN)))) (aN))))))) fr S := rfl
theorem m__law_robot_7_E {fr : Fr} {S : Store} : m__law_robot_7 fr S = (sAsg (gSet 9) (fE (eA mkTup (aC (eC (.str "stop")) (aC (eCall 2 F__law_one (aC (eV 0) (aC (eV 2) (aN)))) (aN)))))) fr S := rfl
theorem m__law_robot_6_E {fr : Fr} {S : Store} : m__law_robot_6 fr S = (sIf (bB (e2 (eqV false) (eCall 2 F__law_draw (aC (eV 0) (aC (eC (.int 5)) (aN)))) (eC (.int 0)))) (m__law_robot_7) (sNx)) fr S := rfl
theorem m__law_robot_8_E {fr : Fr} {S : Store} : m__law_robot_8 fr S = (sAsg (gSet 10) (fE (eIf (bB (e2 (eqV false) (eCall 2 F__law_draw (aC (eV 0) (aC (eC (.int 2)) (aN)))) (eC (.int 0)))) (eC .none) (eCall 2 F__law_one (aC (eV 0) (aC (eV 1) (aN))))))) fr S := rfl
theorem m__law_robot_9_E {fr : Fr} {S : Store} : m__law_robot_9 fr S = (sApp 7 (eA mkTup (aC (eV 10) (aC (eCall 2 F__law_one (aC (eV 0) (aC (eA mkLst (aC (eC .none) (aC (eC .none) (aC (eC (.int 1)) (aC (eC (.int 2)) (aC (eC (.int 3)) (aN))))))) (aN)))) (aC (eV 9) (aN)))))) fr S := rfl
theorem m__law_robot_4_E {fr : Fr} {S : Store} : m__law_robot_4 fr S = (sFor (gSet 8) (iA rng1V (aC (eCall 2 F__law_draw (aC (eV 0) (aC (eC (.int 6)) (aN)))) (aN)))
    (sSeq m__law_robot_5 (sSeq m__law_robot_6 (sSeq m__law_robot_8 m__law_robot_9)))) fr S := rfl
theorem m__law_robot_11_E {fr : Fr} {S : Store} : m__law_robot_11 fr S = (sApp 7 (eA mkTup (aC (eC .none) (aC (eC .none) (aC (eA mkTup (aC (eC (.str "go")) (aC (e2 addV (eC (.int 1)) (eCall 2 F__law_draw (aC (eV 0) (aC (eC (.int 2)) (aN))))) (aC (eCall 2 F__law_draw (aC (eV 0) (aC (eV 4) (aN)))) (aN))))) (aN)))))) fr S := rfl
theorem m__law_robot_10_E {fr : Fr} {S : Store} : m__law_robot_10 fr S = (sIf (bB (e2 gtV (eCall 2 F__law_draw (aC (eV 0) (aC (eC (.int 5)) (aN)))) (eC (.int 0)))) (m__law_robot_11) (sNx)) fr S := rfl
theorem m__law_robot_12_E {fr : Fr} {S : Store} : m__law_robot_12 fr S = (sApp 5 (eA1 tupleV (eP 7))) fr S := rfl
theorem m__law_robot_2_E {fr : Fr} {S : Store} : m__law_robot_2 fr S = (sFor (gSet 6) (iA rng1V (aC (eV 4) (aN)))
    (sSeq m__law_robot_3 (sSeq m__law_robot_4 (sSeq m__law_robot_10 m__law_robot_12)))) fr S := rfl
theorem m__law_robot_13_E {fr : Fr} {S : Store} : m__law_robot_13 fr S = (sRet (eA1 tupleV (eP 5))) fr S := rfl
theorem m__law_robot_E {fr : Fr} {S : Store} : m__law_robot fr S = (sSeq m__law_robot_1 (sSeq m__law_robot_2 m__law_robot_13)) fr S := rfl
def F__law_robot : FN := bodyF 11 m__law_robot
local macro_rules
  | `(tactic| walk_at "go") => `(tactic| simp only [sSeq, ssat_next, ssat_toS, ssat_nx, ssat_rt, ssat_bk, ssat_ct, ssat_bad, ssat_ite, if_false_right, sat_ok, sat_bad, sat_exc, sat_bind, sat_ite, sPutO, sPutI, sPutD, eD, ownD, sAsg, fE, sIf, sNx, sRet, sDrop, sOwn, sApp, sExt, sPar, sFor, e1, e2, eV, eC, eA, eA1, aC, aN, eSl, oN, oS, eP, eM1, eIf, eCall, eChain, eJ, jC, jN, bB, bTr, bAnd, bOr, bNot, eAnd, eOr, eNot, bYes, iSeq, iA, ofG, ofO, fmtV, strV, tupleV, listV, iaddV, PD.eq_int, PD.eq_str, eq_self, gSet, ggNil, ggCons, ggTup, mkTup, mkLst, mkObj, asDs, asD, ownL,
      List.map_cons, List.map_nil, List.cons_append, List.nil_append, List.length_cons, List.length_nil, List.length_set, List.replicate, List.getElem?_cons_succ, List.getElem?_cons_zero, List.getElem?_nil, List.set_cons_succ, List.set_cons_zero, List.all_cons, List.all_nil, setAll, Option.map_some, Option.map_none, Option.bind_some, Option.bind_none,
      ixV, addV, subV, mulV, modV, divV, powV, negV, lenV, intV, absI, enumV, iterV, PD.slV, boolV, truthV, ltD, revA, ltV, gtV, leV, geV, isV, isNone, L2.atI, ixN, Bool.false_xor, Bool.true_xor, Bool.not_true, Bool.not_false, Bool.and_true, Bool.true_and, Bool.and_false, Bool.false_and, decide_true, decide_false, decide_eq_true_eq, Bool.and_eq_true, if_true, if_false, reduceIte, Bool.false_eq_true, Str.empty_append, List.length_append, ite_true, ite_false, true_and, and_true, Int.cast_ofNat_Int, Nat.reduceAdd, Nat.reduceSub, Nat.reduceLT, Int.reduceLT, Int.reduceLE, Int.reduceToNat, Nat.lt_add_one])
local macro_rules
  | `(tactic| walk_at "g0") => `(tactic| simp only [sSeq, ssat_next, ssat_toS, ssat_nx, ssat_rt, ssat_bk, ssat_ct, ssat_bad, ssat_ite, if_false_right, sat_ok, sat_bad, sat_exc, sat_bind, sat_ite, sPutO, sPutI, sPutD, eD, ownD, sAsg, fE, sIf, sNx, sRet, sDrop, sOwn, sApp, sExt, sPar, sFor, e1, e2, eV, eC, eA, eA1, aC, aN, eSl, oN, oS, eP, eM1, eIf, eCall, eChain, eJ, jC, jN, bB, bTr, bAnd, bOr, bNot, eAnd, eOr, eNot, bYes, iSeq, iA, ofG, ofO, fmtV, strV, tupleV, listV, iaddV, PD.eq_int, PD.eq_str, eq_self, gSet, ggNil, ggCons, ggTup, mkTup, mkLst, mkObj, asDs, asD, ownL,
      List.map_cons, List.map_nil, List.cons_append, List.nil_append, List.length_cons, List.length_nil, List.length_set, List.replicate, List.getElem?_cons_succ, List.getElem?_cons_zero, List.getElem?_nil, List.set_cons_succ, List.set_cons_zero, List.all_cons, List.all_nil, setAll, ixT0, ixT1, ixT2, ixL0, ixL1, ixL2, Option.map_some, Option.map_none, Option.bind_some, Option.bind_none,
      addV, subV, mulV, modV, divV, powV, negV, lenV, intV, absI, enumV, iterV, PD.slV, boolV, truthV, ltD, revA, ltV, gtV, leV, geV, isV, isNone, Bool.false_xor, Bool.true_xor, Bool.not_true, Bool.not_false, Bool.and_true, Bool.true_and, Bool.and_false, Bool.false_and, decide_true, decide_false, decide_eq_true_eq, Bool.and_eq_true, if_true, if_false, reduceIte, Bool.false_eq_true, Str.empty_append, List.length_append, ite_true, ite_false, true_and, and_true, Int.cast_ofNat_Int, Nat.reduceAdd, Nat.reduceSub, Nat.reduceLT, Int.reduceLT, Int.reduceLE, Int.reduceToNat, Nat.lt_add_one])
local macro_rules
  | `(tactic| walk_at "g1") => `(tactic| simp only [sSeq, ssat_next, ssat_toS, ssat_nx, ssat_rt, ssat_bk, ssat_ct, ssat_bad, ssat_ite, if_false_right, sat_ok, sat_bad, sat_exc, sat_bind, sat_ite, sPutO, sPutI, sPutD, eD, ownD, sAsg, fE, sIf, sNx, sRet, sDrop, sOwn, sApp, sExt, sPar, sFor, e1, e2, eV, eC, eA, eA1, aC, aN, eSl, oN, oS, eP, eM1, eIf, eCall, eChain, eJ, jC, jN, bB, bTr, bAnd, bOr, bNot, eAnd, eOr, eNot, bYes, iSeq, iA, ofG, ofO, fmtV, strV, tupleV, listV, iaddV, PD.eq_int, PD.eq_str, eq_self, gSet, ggNil, ggCons, ggTup, mkTup, mkLst, mkObj, asDs, asD, ownL,
      List.map_cons, List.map_nil, List.cons_append, List.nil_append, List.length_cons, List.length_nil, List.length_set, List.replicate, List.getElem?_cons_succ, List.getElem?_cons_zero, List.getElem?_nil, List.set_cons_succ, List.set_cons_zero, List.all_cons, List.all_nil, setAll, ixT0, ixT1, ixT2, ixL0, ixL1, ixL2, Option.map_some, Option.map_none, Option.bind_some, Option.bind_none,
      addV, subV, mulV, modV, divV, powV, negV, lenV, intV, absI, enumV, iterV, PD.slV, boolV, truthV, ltD, revA, ltV, gtV, leV, geV, isV, isNone, Bool.false_xor, Bool.true_xor, Bool.not_true, Bool.not_false, Bool.and_true, Bool.true_and, Bool.and_false, Bool.false_and, decide_true, decide_false, decide_eq_true_eq, Bool.and_eq_true, if_true, if_false, reduceIte, Bool.false_eq_true, Str.empty_append, List.length_append, ite_true, ite_false, true_and, and_true, Int.cast_ofNat_Int, Nat.reduceAdd, Nat.reduceSub, Nat.reduceLT, Int.reduceLT, Int.reduceSub, Int.reduceAdd, Int.reduceNeg, Int.reduceLE, Int.reduceToNat, Nat.lt_add_one])
local macro_rules
  | `(tactic| walk_at "g") => `(tactic| simp only [sSeq, ssat_next, ssat_toS, ssat_nx, ssat_rt, ssat_bk, ssat_ct, ssat_bad, ssat_ite, if_false_right, sat_ok, sat_bad, sat_exc, sat_bind, sat_ite, sPutO, sPutI, sPutD, eD, ownD, sAsg, fE, sIf, sNx, sRet, sDrop, sOwn, sApp, sExt, sPar, sFor, e1, e2, eV, eC, eA, eA1, aC, aN, eSl, oN, oS, eP, eM1, eIf, eCall, eChain, eJ, jC, jN, bB, bTr, bAnd, bOr, bNot, eAnd, eOr, eNot, bYes, iSeq, iA, ofG, ofO, fmtV, strV, tupleV, listV, iaddV, PD.eq_int, PD.eq_str, eq_self, gSet, ggNil, ggCons, ggTup, mkTup, mkLst, mkObj, asDs, asD, ownL,
      List.map_cons, List.map_nil, List.cons_append, List.nil_append, List.length_cons, List.length_nil, List.length_set, List.replicate, List.getElem?_cons_succ, List.getElem?_cons_zero, List.getElem?_nil, List.set_cons_succ, List.set_cons_zero, List.all_cons, List.all_nil, setAll, ixT0, ixT1, ixT2, ixL0, ixL1, ixL2, Option.map_some, Option.map_none, Option.bind_some, Option.bind_none,
      addV, subV, mulV, modV, divV, powV, negV, lenV, intV, absI, enumV, iterV, PD.slV, boolV, truthV, ltD, revA, ltV, gtV, leV, geV, isV, isNone, Bool.false_xor, Bool.true_xor, Bool.not_true, Bool.not_false, Bool.and_true, Bool.true_and, Bool.and_false, Bool.false_and, decide_true, decide_false, decide_eq_true_eq, Bool.and_eq_true, if_true, if_false, reduceIte, Bool.false_eq_true, Str.empty_append, List.length_append, ite_true, ite_false, true_and, and_true, Int.cast_ofNat_Int, Nat.reduceAdd, Nat.reduceSub, Nat.reduceLT, Int.reduceLT, Int.reduceSub, Int.reduceAdd, Int.reduceNeg, Int.reduceLE, Int.reduceToNat, Nat.lt_add_one, beq_iff_eq, sizeLine_eq, Nat.reduceLeDiff, inV_tup, inV_lst, eqv_str, eqv_int, eqV_nilT, cutD_tail, false_and, and_false, or_true, true_or, or_false, false_or, ixT3, Bool.true_eq_false, Bool.or_eq_false_iff, decide_eq_false_iff_not, Int.not_le, Int.not_lt, beq_self_eq_true, Int.reduceBEq, Bool.not_eq_eq_eq_not, beq_eq_false_iff_ne, ne_eq, not_true_eq_false, not_false_eq_true, List.isEmpty_cons, List.isEmpty_nil, List.any_cons, List.any_nil, Bool.or_false, Bool.or_eq_true, isaV, PyData.isInt, PyData.isStr, PyData.isBool, PyData.isTuple, PyData.isList, PyData.isDict, m__law_robot_1_E, m__law_robot_3_E, m__law_robot_5_E, m__law_robot_7_E, m__law_robot_6_E, m__law_robot_8_E, m__law_robot_9_E, m__law_robot_4_E, m__law_robot_11_E, m__law_robot_10_E, m__law_robot_12_E, m__law_robot_2_E, m__law_robot_13_E, m__law_robot_E])
local macro_rules
  | `(tactic| walk_at "gt") => `(tactic| try walk_at "go")
local macro_rules
  | `(tactic| walk_at "gq") => `(tactic| try walk_at "g0")
local macro_rules
  | `(tactic| walk_at "len") => `(tactic| (simp only [Str.length_append, PySem.ofString_length, len_nil, sizeLine_eq] at *; omega))
local macro_rules
  | `(tactic| walk_at "fin") => `(tactic| ((repeat' apply And.intro) <;> first | assumption | exact True.intro | walk_at "len" | rfl))
local macro_rules
  | `(tactic| walk_at "start") => `(tactic| (rw [sat_body]; simp only [List.map_cons, List.map_nil, List.cons_append, List.nil_append, List.length_cons, List.length_nil, Nat.reduceAdd, Nat.reduceSub, List.replicate]))
local macro_rules
  | `(tactic| walk_at "wd") => `(tactic| first | assumption | exact Wd.none | exact Wd.bool | exact Wd.small (by decide) (by decide) | exact Wd.lit (by decide) | exact Wd.dict0 | exact Wd.tup Wds.nil | exact Wd.lst Wds.nil | (refine Wd.t1 (k := 2) (a := 990) ?_ (by decide) <;> walk_at "wd") | (refine Wd.t2 (k := 2) (a := 990) (b := 990) ?_ ?_ (by decide) <;> walk_at "wd") | (refine Wd.t3 (k := 2) (a := 990) (b := 990) (c := 990) ?_ ?_ ?_ (by decide) <;> walk_at "wd") | (refine Wd.t4 (k := 2) (a := 990) (b := 990) (c := 990) (e := 990) ?_ ?_ ?_ ?_ (by decide) <;> walk_at "wd") | (refine Wd.t1 (k := 1) (a := 240) ?_ (by decide) <;> walk_at "wd") | (refine Wd.t2 (k := 1) (a := 240) (b := 240) ?_ ?_ (by decide) <;> walk_at "wd") | (refine Wd.t3 (k := 1) (a := 240) (b := 240) (c := 240) ?_ ?_ ?_ (by decide) <;> walk_at "wd") | (refine Wd.t4 (k := 1) (a := 240) (b := 240) (c := 240) (e := 240) ?_ ?_ ?_ ?_ (by decide) <;> walk_at "wd") | (refine Wd.t1 (k := 0) (a := 55) ?_ (by decide) <;> walk_at "wd") | (refine Wd.t2 (k := 0) (a := 55) (b := 55) ?_ ?_ (by decide) <;> walk_at "wd") | (refine Wd.t3 (k := 0) (a := 55) (b := 55) (c := 55) ?_ ?_ ?_ (by decide) <;> walk_at "wd") | (refine Wd.t4 (k := 0) (a := 55) (b := 55) (c := 55) (e := 55) ?_ ?_ ?_ ?_ (by decide) <;> walk_at "wd"))
inductive DeedD (words : List PyData) (n : Int) : PyData → Prop
  | go {a b : Int} : 0 ≤ a → a ≤ 2 → 0 ≤ b → b < n → DeedD words n (.tuple [.str "go", .int a, .int b])
  | stop {w : PyData} : w ∈ words → DeedD words n (.tuple [.str "stop", w])
inductive SignD (signs : List PyData) : PyData → Prop
  | any : SignD signs .none
  | some {s : PyData} : s ∈ signs → SignD signs s
inductive DoorsD : PyData → Prop
  | any : DoorsD .none
  | some {k : Int} : 1 ≤ k → k ≤ 3 → DoorsD (.int k)
inductive RuleD (signs words : List PyData) (n : Int) : PyData → Prop
  | mk {a b c : PyData} : SignD signs a → DoorsD b → DeedD words n c → RuleD signs words n (.tuple [a, b, c])
inductive StateD (signs words : List PyData) (n : Int) : PyData → Prop
  | mk {rs : List PyData} : (∀ r ∈ rs, RuleD signs words n r) → rs.length ≤ 6 → StateD signs words n (.tuple rs)
theorem robot_ok {rest : Store} {n most : Int} {S : Store} {signs words : List PyData} (D : Deck rest n S) (hn : n ≤ 900000000) (h0 : 0 < most) (h1 : most ≤ 100) (hs : signs ≠ []) (hs2 : signs.length ≤ 1000) (hw : words ≠ []) (hw2 : words.length ≤ 1000) :
    (F__law_robot [.obj 1, .d (.list signs), .d (.list words), .d (.int most)] S).sat (fun v S' => ∃ ds, v = .d (.tuple ds) ∧ 1 ≤ ds.length ∧ (ds.length : Int) ≤ most ∧ (∀ d ∈ ds, StateD signs words ds.length d) ∧ Deck rest (n + 1 + 40 * most) S') NoX := by
  have sz : sizeLine = 16777216 := sizeLine_eq
  unfold F__law_robot
  walk_at "start"
  unfold m__law_robot
  refine seq_sat (fun fr S => ∃ many : Int, 1 ≤ many ∧ many ≤ most ∧ fr = [some (.obj 1), some (.d (.list signs)), some (.d (.list words)), some (.d (.int most)), some (.d (.int many)), some (.d (.list [])), none, none, none, none, none] ∧ Deck rest (n + 1) S) ?_ ?_
  · simp only [m__law_robot_1]
    walk_at "go"
    refine (draw_ok D (by omega) (by omega) (by omega)).on fun v S ⟨q, e, q0, q1, D⟩ => ?_
    subst e
    walk_at "go"
    exact ⟨by omega, _, by omega, by omega, rfl, D⟩
  rintro _ S ⟨many, m1, m4, rfl, D⟩
  refine seq_sat (fun fr S => ∃ ds x y z u w, (∀ d ∈ ds, StateD signs words many d) ∧ ds.length = many.toNat ∧ fr = [some (.obj 1), some (.d (.list signs)), some (.d (.list words)), some (.d (.int most)), some (.d (.int many)), some (.d (.list ds)), x, y, z, u, w] ∧ Deck rest (n + 1 + 40 * many) S) ?_ ?_
  · simp only [m__law_robot_2]
    walk_at "go"
    rw [rng1_ok (by omega) (by omega)]
    walk_at "go"
    refine ssat_rng (fun j fr S => ∃ ds x y z u w, (∀ d ∈ ds, StateD signs words many d) ∧ ds.length = j ∧ fr = [some (.obj 1), some (.d (.list signs)), some (.d (.list words)), some (.d (.int most)), some (.d (.int many)), some (.d (.list ds)), x, y, z, u, w] ∧ Deck rest (n + 1 + 40 * j) S)
      ⟨[], none, none, none, none, none, by simp, rfl, rfl, by simpa using D⟩ (fun j fr S hj ⟨ds, x, y, z, u, w, hd, hl, e, D⟩ => ?_) fun fr S ⟨ds, x, y, z, u, w, hd, hl, e, D⟩ => ⟨ds, x, y, z, u, w, hd, hl, e, D.mono (by omega)⟩
    subst e
    refine ⟨[some (.obj 1), some (.d (.list signs)), some (.d (.list words)), some (.d (.int most)), some (.d (.int many)), some (.d (.list ds)), some (.d (.int (j : Nat))), y, z, u, w], rfl, ?_⟩
    refine seq_sat (fun fr S => fr = [some (.obj 1), some (.d (.list signs)), some (.d (.list words)), some (.d (.int most)), some (.d (.int many)), some (.d (.list ds)), some (.d (.int (j : Nat))), some (.d (.list [])), z, u, w] ∧ Deck rest (n + 1 + 40 * j) S) ?_ ?_
    · simp only [m__law_robot_3]
      walk_at "go"
      exact ⟨by omega, D⟩
    rintro _ S ⟨rfl, D⟩
    refine seq_sat (fun fr S => ∃ rs z u w, (∀ r ∈ rs, RuleD signs words many r) ∧ rs.length ≤ 5 ∧ fr = [some (.obj 1), some (.d (.list signs)), some (.d (.list words)), some (.d (.int most)), some (.d (.int many)), some (.d (.list ds)), some (.d (.int (j : Nat))), some (.d (.list rs)), z, u, w] ∧ Deck rest (n + 1 + 40 * j + 36) S) ?_ ?_
    · simp only [m__law_robot_4]
      walk_at "go"
      refine (draw_ok D (by omega) (by decide) (by decide)).on fun v S ⟨q, e, q0, q1, D⟩ => ?_
      subst e
      rw [rng1_ok (by omega) (by omega)]
      walk_at "go"
      refine ssat_rng (fun l fr S => ∃ rs z u w, (∀ r ∈ rs, RuleD signs words many r) ∧ rs.length = l ∧ fr = [some (.obj 1), some (.d (.list signs)), some (.d (.list words)), some (.d (.int most)), some (.d (.int many)), some (.d (.list ds)), some (.d (.int (j : Nat))), some (.d (.list rs)), z, u, w] ∧ Deck rest (n + 1 + 40 * j + 1 + 7 * l) S)
        ⟨[], z, u, w, by simp, rfl, rfl, by simpa using D⟩ (fun l fr S hj2 ⟨rs, z, u, w, hp, hr, e, D⟩ => ?_) fun fr S ⟨rs, z, u, w, hp, hr, e, D⟩ => ⟨rs, z, u, w, hp, by omega, e, D.mono (by omega)⟩
      subst e
      refine ⟨[some (.obj 1), some (.d (.list signs)), some (.d (.list words)), some (.d (.int most)), some (.d (.int many)), some (.d (.list ds)), some (.d (.int (j : Nat))), some (.d (.list rs)), some (.d (.int (l : Nat))), u, w], rfl, ?_⟩
      refine seq_sat (fun fr S => ∃ dd, DeedD words many dd ∧ fr = [some (.obj 1), some (.d (.list signs)), some (.d (.list words)), some (.d (.int most)), some (.d (.int many)), some (.d (.list ds)), some (.d (.int (j : Nat))), some (.d (.list rs)), some (.d (.int (l : Nat))), some (.d dd), w] ∧ Deck rest (n + 1 + 40 * j + 1 + 7 * l + 2) S) ?_ ?_
      · simp only [m__law_robot_5]
        walk_at "go"
        refine (draw_ok D (by omega) (by decide) (by decide)).on fun v S ⟨q, e, q0, q1, D⟩ => ?_
        subst e
        walk_at "go"
        refine (draw_ok D (by omega) (by omega) (by omega)).on fun v S ⟨q, e, q0, q1, D⟩ => ?_
        subst e
        walk_at "go"
        exact ⟨by omega, _, .go (by omega) (by omega) (by omega) (by omega), rfl, D.mono (by omega)⟩
      rintro _ S ⟨dd, hdd, rfl, D⟩
      refine seq_sat (fun fr S => ∃ dd, DeedD words many dd ∧ fr = [some (.obj 1), some (.d (.list signs)), some (.d (.list words)), some (.d (.int most)), some (.d (.int many)), some (.d (.list ds)), some (.d (.int (j : Nat))), some (.d (.list rs)), some (.d (.int (l : Nat))), some (.d dd), w] ∧ Deck rest (n + 1 + 40 * j + 1 + 7 * l + 4) S) ?_ ?_
      · simp only [m__law_robot_6]
        walk_at "go"
        refine (draw_ok D (by omega) (by decide) (by decide)).on fun v S ⟨q, e, q0, q1, D⟩ => ?_
        subst e
        walk_at "go"
        by_cases h : (q == 0) = true
        · rw [if_pos h]
          simp only [m__law_robot_7]
          walk_at "go"
          refine (one_list D (by omega) hw (by omega)).on fun v S ⟨d, h1, e, D⟩ => ?_
          subst e
          walk_at "go"
          exact ⟨by omega, _, .stop h1, rfl, D.mono (by omega)⟩
        · rw [if_neg h]
          exact ⟨_, hdd, rfl, D.mono (by omega)⟩
      rintro _ S ⟨dd, hdd, rfl, D⟩
      refine seq_sat (fun fr S => ∃ sg, SignD signs sg ∧ fr = [some (.obj 1), some (.d (.list signs)), some (.d (.list words)), some (.d (.int most)), some (.d (.int many)), some (.d (.list ds)), some (.d (.int (j : Nat))), some (.d (.list rs)), some (.d (.int (l : Nat))), some (.d dd), some (.d sg)] ∧ Deck rest (n + 1 + 40 * j + 1 + 7 * l + 6) S) ?_ ?_
      · simp only [m__law_robot_8]
        walk_at "go"
        refine (draw_ok D (by omega) (by decide) (by decide)).on fun v S ⟨q, e, q0, q1, D⟩ => ?_
        subst e
        walk_at "go"
        by_cases h : (q == 0) = true
        · rw [if_pos h]
          exact ⟨_, .any, rfl, D.mono (by omega)⟩
        · rw [if_neg h]
          refine (one_list D (by omega) hs (by omega)).on fun v S ⟨d, h1, e, D⟩ => ?_
          subst e
          exact ⟨_, .some h1, rfl, D.mono (by omega)⟩
      rintro _ S ⟨sg, hsg, rfl, D⟩
      simp only [m__law_robot_9]
      walk_at "go"
      refine ⟨by omega, (one_list D (by omega) (by simp) (by simp)).on fun v S ⟨d2, h2, e, D⟩ => ?_⟩
      subst e
      have k2 : DoorsD d2 := by
        simp only [List.mem_cons, List.not_mem_nil, or_false] at h2
        rcases h2 with rfl | rfl | rfl | rfl | rfl
        · exact .any
        · exact .any
        · exact .some (by decide) (by decide)
        · exact .some (by decide) (by decide)
        · exact .some (by decide) (by decide)
      walk_at "go"
      refine ⟨by omega, by omega, rs ++ [.tuple [sg, d2, dd]], _, _, _, fun r h => ?_, by simp [hr], rfl, D.mono (by omega)⟩
      rcases List.mem_append.mp h with h | h
      · exact hp r h
      · rw [List.mem_singleton.mp h]
        exact .mk hsg k2 hdd
    rintro _ S ⟨rs, z, u, w, hp, hr, rfl, D⟩
    refine seq_sat (fun fr S => ∃ rs z u w, (∀ r ∈ rs, RuleD signs words many r) ∧ rs.length ≤ 6 ∧ fr = [some (.obj 1), some (.d (.list signs)), some (.d (.list words)), some (.d (.int most)), some (.d (.int many)), some (.d (.list ds)), some (.d (.int (j : Nat))), some (.d (.list rs)), z, u, w] ∧ Deck rest (n + 1 + 40 * j + 39) S) ?_ ?_
    · simp only [m__law_robot_10]
      walk_at "go"
      refine (draw_ok D (by omega) (by decide) (by decide)).on fun v S ⟨q, e, q0, q1, D⟩ => ?_
      subst e
      walk_at "go"
      by_cases h : 0 < q
      · rw [if_pos h]
        simp only [m__law_robot_11]
        walk_at "go"
        refine (draw_ok D (by omega) (by decide) (by decide)).on fun v S ⟨q, e, q0, q1, D⟩ => ?_
        subst e
        walk_at "go"
        refine (draw_ok D (by omega) (by omega) (by omega)).on fun v S ⟨q2, e, q2a, q2b, D⟩ => ?_
        subst e
        walk_at "go"
        refine ⟨by omega, by omega, by omega, rs ++ [.tuple [.none, .none, .tuple [.str "go", .int (1 + q), .int q2]]], _, _, _, fun r h => ?_, by simp; omega, rfl, D.mono (by omega)⟩
        rcases List.mem_append.mp h with h | h
        · exact hp r h
        · rw [List.mem_singleton.mp h]
          exact .mk .any .any (.go (by omega) (by omega) q2a q2b)
      · rw [if_neg h]
        exact ⟨rs, _, _, _, hp, by omega, rfl, D.mono (by omega)⟩
    rintro _ S ⟨rs, z, u, w, hp, hr, rfl, D⟩
    simp only [m__law_robot_12]
    walk_at "go"
    refine ⟨by omega, ds ++ [.tuple rs], _, _, _, _, _, fun d h => ?_, by simp [hl], rfl, D.mono (by omega)⟩
    rcases List.mem_append.mp h with h | h
    · exact hd d h
    · rw [List.mem_singleton.mp h]
      exact .mk hp hr
  rintro _ S ⟨ds, x, y, z, u, w, hd, hl, rfl, D⟩
  simp only [m__law_robot_13]
  walk_at "go"
  have e : (ds.length : Int) = many := by omega
  exact ⟨ds, rfl, by omega, by omega, by rw [e]; exact hd, D.mono (by omega)⟩
theorem rl_of {signs words : List PyData} {m : Nat} {d : PyData} (h : RuleD signs words (m : Nat) d) (hs : ∀ x ∈ signs, ∃ s, x = PyData.str s ∧ Tx 20 s) (hw : ∀ x ∈ words, ∃ s, x = PyData.str s ∧ Tx 20 s) : ∃ r : Rl, d = r.d ∧ r.Wf m := by
  obtain ⟨ha, hb, hc⟩ := h
  rename_i a b c
  obtain ⟨sg, rfl, h1⟩ : ∃ sg, a = optS sg ∧ ∀ s, sg = some s → Tx 20 s := by
    cases ha with
    | any => exact ⟨none, rfl, fun s e => by cases e⟩
    | some h =>
      obtain ⟨s, rfl, hs⟩ := hs _ h
      exact ⟨some s, rfl, fun t e => by cases e; exact hs⟩
  obtain ⟨dr, rfl, h2⟩ : ∃ dr, b = optI dr ∧ ∀ k, dr = some k → 1 ≤ k ∧ k ≤ 3 := by
    cases hb with
    | any => exact ⟨none, rfl, fun s e => by cases e⟩
    | some p q => exact ⟨some _, rfl, fun t e => by cases e; exact ⟨p, q⟩⟩
  obtain ⟨dd, rfl, h3⟩ : ∃ dd : Deed, c = dd.d ∧ dd.Wf m := by
    cases hc with
    | go p1 p2 p3 p4 => exact ⟨.go _ _, rfl, p1, p2, p3, p4⟩
    | stop h =>
      obtain ⟨s, rfl, hs⟩ := hw _ h
      exact ⟨.stop s, rfl, hs⟩
  exact ⟨⟨sg, dr, dd⟩, rfl, h1, h2, h3⟩
theorem rob_of {signs words ds : List PyData} (h : ∀ d ∈ ds, StateD signs words ds.length d) (l1 : 1 ≤ ds.length) (l2 : ds.length ≤ 100) (hs : ∀ x ∈ signs, ∃ s, x = PyData.str s ∧ Tx 20 s) (hw : ∀ x ∈ words, ∃ s, x = PyData.str s ∧ Tx 20 s) : ∃ R : Rob, RobWf R ∧ PyData.tuple ds = robD R ∧ R.length = ds.length := by
  obtain ⟨R, e, hr⟩ := map_of_all2 (f := stD) (P := fun rs => rs.length ≤ 6 ∧ ∀ r ∈ rs, r.Wf ds.length) (ds := ds) fun d hd => by
    obtain ⟨hr, hl⟩ := h d hd
    rename_i rs
    obtain ⟨qs, rfl, hq⟩ := map_of_all2 (f := Rl.d) (P := fun r => r.Wf ds.length) (ds := rs) fun d hd => rl_of (hr d hd) hs hw
    exact ⟨qs, rfl, by simpa using hl, hq⟩
  have el : R.length = ds.length := by rw [e, List.length_map]
  refine ⟨R, ⟨by omega, by omega, fun rs hrs => ?_⟩, by rw [robD, ← e], el⟩
  rw [el]
  exact hr rs hrs
end Wk
namespace Wk
open PySem PySem.Spec PyProof.Rows L2 PD
def top (i : Nat) : Stmt := PySem.Challenge.pw_anymaze_k51_whole_great_plans_by_steps.main.body.getD i (.Pass ⟨0, 0, 0, 0⟩)
abbrev s_rule_for : Stmt := top 4
abbrev N_rule_for : List Str := ["robot", "state", "sign", "doors", "index", "rule"]
abbrev s_deed_by : Stmt := top 5
abbrev N_deed_by : List Str := ["robot", "state", "rule"]
abbrev s_legs_of : Stmt := top 7
abbrev N_legs_of : List Str := ["robot", "sign", "results", "state", "doors", "door", "legs", "seen", "rule", "deed", "out", "found"]
abbrev s_room_results : Stmt := top 8
abbrev N_room_results : List Str := ["robot", "sign", "results", "state"]
abbrev s_Course___init__ : Stmt := inClass (top 10) 0
abbrev N_Course___init__ : List Str := ["self", "plan", "robot", "sign", "numbers", "inner", "entry", "number", "state"]
abbrev s_Course_inner : Stmt := inClass (top 10) 1
abbrev N_Course_inner : List Str := ["self", "entry", "leg"]
abbrev s_Course_leg_steps : Stmt := inClass (top 10) 2
abbrev N_Course_leg_steps : List Str := ["self", "entry", "leg", "behind"]
abbrev s_Course_steps_in : Stmt := inClass (top 10) 3
abbrev N_Course_steps_in : List Str := ["self", "entry", "state", "legs", "result", "again", "leg"]
abbrev s_Course_last_path : Stmt := inClass (top 10) 4
abbrev N_Course_last_path : List Str := ["self", "entry", "state", "path", "leg"]
abbrev s_Course_leg_behind : Stmt := inClass (top 10) 5
abbrev N_Course_leg_behind : List Str := ["self", "entry", "state", "steps", "legs", "result", "again", "at", "turn", "long", "leg"]
abbrev s_Course_stand_behind : Stmt := inClass (top 10) 6
abbrev N_Course_stand_behind : List Str := ["self", "steps", "entry", "state", "path", "found", "leg", "left"]
abbrev s_Course_stands_with : Stmt := inClass (top 10) 7
abbrev N_Course_stands_with : List Str := ["self", "sign", "found", "entry", "row", "legs", "result", "again", "many", "inner", "leg"]
abbrev s_plan_walk : Stmt := top 11
abbrev N_plan_walk : List Str := ["plan", "robot", "course", "result", "steps"]
abbrev s_plan_stand : Stmt := top 12
abbrev N_plan_stand : List Str := ["plan", "robot", "steps"]
abbrev s_plan_meets : Stmt := top 13
abbrev N_plan_meets : List Str := ["plan", "robot", "sign"]
abbrev s__law_deck : Stmt := top 15
abbrev N__law_deck : List Str := ["_law_script", "_law_cell"]
abbrev s__law_draw : Stmt := top 16
abbrev N__law_draw : List Str := ["_law_deck_here", "_law_many", "_law_cell", "_law_at", "_law_mixed"]
abbrev s__law_one : Stmt := top 17
abbrev N__law_one : List Str := ["_law_deck_here", "_law_items"]
abbrev s__law_signs : Stmt := top 18
abbrev N__law_signs : List Str := ["_law_deck_here", "_law_many", "_law_letters", "_law_left", "_law_right_here", "_law_k"]
abbrev s__law_plan : Stmt := top 19
abbrev N__law_plan : List Str := ["_law_deck_here", "_law_signs_here", "_law_many", "_law_plan_here", "_law_index", "_law_numbers", "_law_k"]
abbrev s__law_robot : Stmt := top 20
abbrev N__law_robot : List Str := ["_law_deck_here", "_law_signs_here", "_law_words", "_law_most", "_law_states", "_law_robot_here", "_law_k", "_law_rules", "_law_j", "_law_deed", "_law_sign"]
abbrev s__law_next : Stmt := top 21
abbrev N__law_next : List Str := ["_law_plan_here", "_law_robot_here", "_law_stand", "_law_path", "_law_door", "_law_state", "_law_entry", "_law_at", "_law_doors", "_law_fits", "_law_deed", "_law_out", "_law_rule"]
abbrev s__law_far : Stmt := top 22
abbrev N__law_far : List Str := ["_law_deck_here", "_law_bound", "_law_found", "_law_k"]
abbrev s__law_end_right : Stmt := top 23
abbrev N__law_end_right : List Str := ["_law_plan_here", "_law_robot_here", "_law_told", "_law_word", "_law_steps", "_law_path", "_law_last", "_law_later", "_law_k"]
abbrev s__law_meets_right : Stmt := top 24
abbrev N__law_meets_right : List Str := ["_law_plan_here", "_law_robot_here", "_law_told", "_law_found", "_law_sign", "_law_entry", "_law_one_here"]
abbrev s__law_right : Stmt := top 25
abbrev N__law_right : List Str := ["_law_deck_here", "_law_plan_here", "_law_robot_here", "_law_told", "_law_last", "_law_k", "_law_steps", "_law_later"]
abbrev s_law : Stmt := top 26
abbrev N_law : List Str := ["_law_script", "_law_deck_here", "_law_turn", "_law_signs_here", "_law_plan_here", "_law_k"]
def m__law_next_1 : SM := sAsg (ggTup 3 (ggCons (gSet 3) (ggCons (gSet 4) (ggCons (gSet 5) (ggNil))))) (fE (eV 2))
def m__law_next_2 : SM := sAsg (gSet 6) (fE (e2 ixV (eV 0) (e1 negV (eC (.int 1)))))
def m__law_next_4 : SM := sAsg (gSet 6) (fE (e2 ixV (eV 0) (e2 ixV (e2 ixV (eV 6) (eC (.int 1))) (e2 subV (eV 7) (eC (.int 1))))))
def m__law_next_3 : SM := sFor (gSet 7) (iSeq (eV 3))
    (m__law_next_4)
def m__law_next_5 : SM := sAsg (gSet 8) (fE (e2 addV (eC (.int 1)) (eA1 lenV (e2 ixV (eV 6) (eC (.int 1))))))
def m__law_next_6 : SM := sAsg (gSet 9) (fE (eLc (iSeq (e2 ixV (eV 1) (eV 5))) (gSet 12) (bAnd (bB (e2 (inV false) (e2 ixV (eV 12) (eC (.int 0))) (eA mkLst (aC (eC .none) (aC (e2 ixV (eV 6) (eC (.int 0))) (aN)))))) (bB (e2 (inV false) (e2 ixV (eV 12) (eC (.int 1))) (eA mkLst (aC (eC .none) (aC (eV 8) (aN))))))) (e2 ixV (eV 12) (eC (.int 2))) [12]))
def m__law_next_7 : SM := sAsg (gSet 10) (fE (eIf (bB (e2 (eqV true) (eV 9) (eA mkLst (aN)))) (e2 ixV (eV 9) (eC (.int 0))) (eA mkTup (aC (eC (.str "stop")) (aC (eC (.str "lost")) (aN))))))
def m__law_next_9 : SM := sRet (eV 10)
def m__law_next_8 : SM := sIf (bB (e2 (eqV false) (e2 ixV (eV 10) (eC (.int 0))) (eC (.str "stop")))) (m__law_next_9) (sNx)
def m__law_next_10 : SM := sAsg (gSet 11) (fE (e2 modV (eA1 intV (e2 addV (eV 4) (e2 ixV (eV 10) (eC (.int 1))))) (eV 8)))
def m__law_next_12 : SM := sRet (eA mkTup (aC (e2 addV (eV 3) (eA mkTup (aC (eV 11) (aN)))) (aC (eC (.int 0)) (aC (e2 ixV (eV 10) (eC (.int 2))) (aN)))))
def m__law_next_11 : SM := sIf (bB (e2 gtV (eV 11) (eC (.int 0)))) (m__law_next_12) (sNx)
def m__law_next_13 : SM := sRet (eIf (bB (e2 (eqV false) (eV 3) (eA mkTup (aN)))) (eA mkTup (aC (eC (.str "out")) (aC (eC .none) (aN)))) (eA mkTup (aC (eSl (eV 3) (oN) (oS (e1 negV (eC (.int 1))))) (aC (e2 ixV (eV 3) (e1 negV (eC (.int 1)))) (aC (e2 ixV (eV 10) (eC (.int 2))) (aN))))))
def m__law_next : SM := sSeq m__law_next_1 (sSeq m__law_next_2 (sSeq m__law_next_3 (sSeq m__law_next_5 (sSeq m__law_next_6 (sSeq m__law_next_7 (sSeq m__law_next_8 (sSeq m__law_next_10 (sSeq m__law_next_11 m__law_next_13))))))))
theorem m__law_next_1_E {fr : Fr} {S : Store} : m__law_next_1 fr S = (sAsg (ggTup 3 (ggCons (gSet 3) (ggCons (gSet 4) (ggCons (gSet 5) (ggNil))))) (fE (eV 2))) fr S := rfl
theorem m__law_next_2_E {fr : Fr} {S : Store} : m__law_next_2 fr S = (sAsg (gSet 6) (fE (e2 ixV (eV 0) (e1 negV (eC (.int 1)))))) fr S := rfl
theorem m__law_next_4_E {fr : Fr} {S : Store} : m__law_next_4 fr S = (sAsg (gSet 6) (fE (e2 ixV (eV 0) (e2 ixV (e2 ixV (eV 6) (eC (.int 1))) (e2 subV (eV 7) (eC (.int 1))))))) fr S := rfl
theorem m__law_next_3_E {fr : Fr} {S : Store} : m__law_next_3 fr S = (sFor (gSet 7) (iSeq (eV 3))
    (m__law_next_4)) fr S := rfl
theorem m__law_next_5_E {fr : Fr} {S : Store} : m__law_next_5 fr S = (sAsg (gSet 8) (fE (e2 addV (eC (.int 1)) (eA1 lenV (e2 ixV (eV 6) (eC (.int 1))))))) fr S := rfl
theorem m__law_next_6_E {fr : Fr} {S : Store} : m__law_next_6 fr S = (sAsg (gSet 9) (fE (eLc (iSeq (e2 ixV (eV 1) (eV 5))) (gSet 12) (bAnd (bB (e2 (inV false) (e2 ixV (eV 12) (eC (.int 0))) (eA mkLst (aC (eC .none) (aC (e2 ixV (eV 6) (eC (.int 0))) (aN)))))) (bB (e2 (inV false) (e2 ixV (eV 12) (eC (.int 1))) (eA mkLst (aC (eC .none) (aC (eV 8) (aN))))))) (e2 ixV (eV 12) (eC (.int 2))) [12]))) fr S := rfl
theorem m__law_next_7_E {fr : Fr} {S : Store} : m__law_next_7 fr S = (sAsg (gSet 10) (fE (eIf (bB (e2 (eqV true) (eV 9) (eA mkLst (aN)))) (e2 ixV (eV 9) (eC (.int 0))) (eA mkTup (aC (eC (.str "stop")) (aC (eC (.str "lost")) (aN))))))) fr S := rfl
theorem m__law_next_9_E {fr : Fr} {S : Store} : m__law_next_9 fr S = (sRet (eV 10)) fr S := rfl
theorem m__law_next_8_E {fr : Fr} {S : Store} : m__law_next_8 fr S = (sIf (bB (e2 (eqV false) (e2 ixV (eV 10) (eC (.int 0))) (eC (.str "stop")))) (m__law_next_9) (sNx)) fr S := rfl
theorem m__law_next_10_E {fr : Fr} {S : Store} : m__law_next_10 fr S = (sAsg (gSet 11) (fE (e2 modV (eA1 intV (e2 addV (eV 4) (e2 ixV (eV 10) (eC (.int 1))))) (eV 8)))) fr S := rfl
theorem m__law_next_12_E {fr : Fr} {S : Store} : m__law_next_12 fr S = (sRet (eA mkTup (aC (e2 addV (eV 3) (eA mkTup (aC (eV 11) (aN)))) (aC (eC (.int 0)) (aC (e2 ixV (eV 10) (eC (.int 2))) (aN)))))) fr S := rfl
theorem m__law_next_11_E {fr : Fr} {S : Store} : m__law_next_11 fr S = (sIf (bB (e2 gtV (eV 11) (eC (.int 0)))) (m__law_next_12) (sNx)) fr S := rfl
theorem m__law_next_13_E {fr : Fr} {S : Store} : m__law_next_13 fr S = (sRet (eIf (bB (e2 (eqV false) (eV 3) (eA mkTup (aN)))) (eA mkTup (aC (eC (.str "out")) (aC (eC .none) (aN)))) (eA mkTup (aC (eSl (eV 3) (oN) (oS (e1 negV (eC (.int 1))))) (aC (e2 ixV (eV 3) (e1 negV (eC (.int 1)))) (aC (e2 ixV (eV 10) (eC (.int 2))) (aN))))))) fr S := rfl
theorem m__law_next_E {fr : Fr} {S : Store} : m__law_next fr S = (sSeq m__law_next_1 (sSeq m__law_next_2 (sSeq m__law_next_3 (sSeq m__law_next_5 (sSeq m__law_next_6 (sSeq m__law_next_7 (sSeq m__law_next_8 (sSeq m__law_next_10 (sSeq m__law_next_11 m__law_next_13))))))))) fr S := rfl
def F__law_next : FN := bodyF 13 m__law_next
def m__law_far_1 : SM := sAsg (gSet 2) (fE (eC (.int 0)))
def m__law_far_3 : SM := sAsg (gSet 2) (fE (e2 addV (e2 mulV (eV 2) (e2 powV (eC (.int 10)) (eC (.int 5)))) (eCall 2 F__law_draw (aC (eV 0) (aC (e2 powV (eC (.int 10)) (eC (.int 5))) (aN))))))
def m__law_far_2 : SM := sFor (gSet 3) (iA rng1V (aC (eC (.int 8)) (aN)))
    (m__law_far_3)
def m__law_far_4 : SM := sRet (e2 modV (eA1 intV (eV 2)) (eV 1))
def m__law_far : SM := sSeq m__law_far_1 (sSeq m__law_far_2 m__law_far_4)
theorem m__law_far_1_E {fr : Fr} {S : Store} : m__law_far_1 fr S = (sAsg (gSet 2) (fE (eC (.int 0)))) fr S := rfl
theorem m__law_far_3_E {fr : Fr} {S : Store} : m__law_far_3 fr S = (sAsg (gSet 2) (fE (e2 addV (e2 mulV (eV 2) (e2 powV (eC (.int 10)) (eC (.int 5)))) (eCall 2 F__law_draw (aC (eV 0) (aC (e2 powV (eC (.int 10)) (eC (.int 5))) (aN))))))) fr S := rfl
theorem m__law_far_2_E {fr : Fr} {S : Store} : m__law_far_2 fr S = (sFor (gSet 3) (iA rng1V (aC (eC (.int 8)) (aN)))
    (m__law_far_3)) fr S := rfl
theorem m__law_far_4_E {fr : Fr} {S : Store} : m__law_far_4 fr S = (sRet (e2 modV (eA1 intV (eV 2)) (eV 1))) fr S := rfl
theorem m__law_far_E {fr : Fr} {S : Store} : m__law_far fr S = (sSeq m__law_far_1 (sSeq m__law_far_2 m__law_far_4)) fr S := rfl
def F__law_far : FN := bodyF 4 m__law_far
def m__law_end_right_1 : SM := sAsg (ggTup 3 (ggCons (gSet 3) (ggCons (gSet 4) (ggCons (gSet 5) (ggNil))))) (fE (eV 2))
def m__law_end_right_3 : SM := sRet (eAnd (e2 (isV false) (eV 4) (eC .none)) (eAnd (e2 (isV false) (eV 5) (eC .none)) (e2 (isV true) (eCall 3 F_plan_stand (aC (eV 0) (aC (eV 1) (aC (e2 subV (e2 powV (eC (.int 10)) (eC (.int 40))) (eC (.int 1))) (aN))))) (eC .none))))
def m__law_end_right_2 : SM := sIf (bB (e2 (eqV false) (eV 3) (eC (.str "ever")))) (m__law_end_right_3) (sNx)
def m__law_end_right_4 : SM := sAsg (gSet 6) (fE (eCall 3 F_plan_stand (aC (eV 0) (aC (eV 1) (aC (eIf (bB (e2 (eqV false) (eV 3) (eC (.str "out")))) (e2 subV (eV 4) (eC (.int 1))) (eV 4)) (aN))))))
def m__law_end_right_5 : SM := sAsg (gSet 7) (fE (eCall 3 F__law_next (aC (eV 0) (aC (eV 1) (aC (eV 6) (aN))))))
def m__law_end_right_7 : SM := sRet (eC (.bool false))
def m__law_end_right_6 : SM := sIf (bB (e2 (eqV true) (eLc (iSeq (eA mkLst (aC (eC (.int 1)) (aC (eC (.int 2)) (aC (e2 powV (eC (.int 10)) (eC (.int 20))) (aN)))))) (gSet 8) (bYes) (eCall 3 F_plan_stand (aC (eV 0) (aC (eV 1) (aC (e2 addV (eV 4) (eV 8)) (aN))))) [8]) (e2 mulV (eA mkLst (aC (eC .none) (aN))) (eC (.int 3))))) (m__law_end_right_7) (sNx)
def m__law_end_right_9 : SM := sRet (eAnd (e2 (isV false) (eV 5) (eC .none)) (eAnd (e2 (eqV false) (eV 7) (eA mkTup (aC (eC (.str "out")) (aC (eC .none) (aN))))) (e2 (isV false) (eCall 3 F_plan_stand (aC (eV 0) (aC (eV 1) (aC (eV 4) (aN))))) (eC .none))))
def m__law_end_right_8 : SM := sIf (bB (e2 (eqV false) (eV 3) (eC (.str "out")))) (m__law_end_right_9) (sNx)
def m__law_end_right_10 : SM := sRet (eAnd (e2 (eqV false) (eV 7) (eA mkTup (aC (eC (.str "stop")) (aC (eV 3) (aN))))) (e2 (eqV false) (eA1 reprVD (e2 ixV (eV 6) (eC (.int 0)))) (eA1 reprVD (eV 5))))
def m__law_end_right : SM := sSeq m__law_end_right_1 (sSeq m__law_end_right_2 (sSeq m__law_end_right_4 (sSeq m__law_end_right_5 (sSeq m__law_end_right_6 (sSeq m__law_end_right_8 m__law_end_right_10)))))
theorem m__law_end_right_1_E {fr : Fr} {S : Store} : m__law_end_right_1 fr S = (sAsg (ggTup 3 (ggCons (gSet 3) (ggCons (gSet 4) (ggCons (gSet 5) (ggNil))))) (fE (eV 2))) fr S := rfl
theorem m__law_end_right_3_E {fr : Fr} {S : Store} : m__law_end_right_3 fr S = (sRet (eAnd (e2 (isV false) (eV 4) (eC .none)) (eAnd (e2 (isV false) (eV 5) (eC .none)) (e2 (isV true) (eCall 3 F_plan_stand (aC (eV 0) (aC (eV 1) (aC (e2 subV (e2 powV (eC (.int 10)) (eC (.int 40))) (eC (.int 1))) (aN))))) (eC .none))))) fr S := rfl
theorem m__law_end_right_2_E {fr : Fr} {S : Store} : m__law_end_right_2 fr S = (sIf (bB (e2 (eqV false) (eV 3) (eC (.str "ever")))) (m__law_end_right_3) (sNx)) fr S := rfl
theorem m__law_end_right_4_E {fr : Fr} {S : Store} : m__law_end_right_4 fr S = (sAsg (gSet 6) (fE (eCall 3 F_plan_stand (aC (eV 0) (aC (eV 1) (aC (eIf (bB (e2 (eqV false) (eV 3) (eC (.str "out")))) (e2 subV (eV 4) (eC (.int 1))) (eV 4)) (aN))))))) fr S := rfl
theorem m__law_end_right_5_E {fr : Fr} {S : Store} : m__law_end_right_5 fr S = (sAsg (gSet 7) (fE (eCall 3 F__law_next (aC (eV 0) (aC (eV 1) (aC (eV 6) (aN))))))) fr S := rfl
theorem m__law_end_right_7_E {fr : Fr} {S : Store} : m__law_end_right_7 fr S = (sRet (eC (.bool false))) fr S := rfl
theorem m__law_end_right_6_E {fr : Fr} {S : Store} : m__law_end_right_6 fr S = (sIf (bB (e2 (eqV true) (eLc (iSeq (eA mkLst (aC (eC (.int 1)) (aC (eC (.int 2)) (aC (e2 powV (eC (.int 10)) (eC (.int 20))) (aN)))))) (gSet 8) (bYes) (eCall 3 F_plan_stand (aC (eV 0) (aC (eV 1) (aC (e2 addV (eV 4) (eV 8)) (aN))))) [8]) (e2 mulV (eA mkLst (aC (eC .none) (aN))) (eC (.int 3))))) (m__law_end_right_7) (sNx)) fr S := rfl
theorem m__law_end_right_9_E {fr : Fr} {S : Store} : m__law_end_right_9 fr S = (sRet (eAnd (e2 (isV false) (eV 5) (eC .none)) (eAnd (e2 (eqV false) (eV 7) (eA mkTup (aC (eC (.str "out")) (aC (eC .none) (aN))))) (e2 (isV false) (eCall 3 F_plan_stand (aC (eV 0) (aC (eV 1) (aC (eV 4) (aN))))) (eC .none))))) fr S := rfl
theorem m__law_end_right_8_E {fr : Fr} {S : Store} : m__law_end_right_8 fr S = (sIf (bB (e2 (eqV false) (eV 3) (eC (.str "out")))) (m__law_end_right_9) (sNx)) fr S := rfl
theorem m__law_end_right_10_E {fr : Fr} {S : Store} : m__law_end_right_10 fr S = (sRet (eAnd (e2 (eqV false) (eV 7) (eA mkTup (aC (eC (.str "stop")) (aC (eV 3) (aN))))) (e2 (eqV false) (eA1 reprVD (e2 ixV (eV 6) (eC (.int 0)))) (eA1 reprVD (eV 5))))) fr S := rfl
theorem m__law_end_right_E {fr : Fr} {S : Store} : m__law_end_right fr S = (sSeq m__law_end_right_1 (sSeq m__law_end_right_2 (sSeq m__law_end_right_4 (sSeq m__law_end_right_5 (sSeq m__law_end_right_6 (sSeq m__law_end_right_8 m__law_end_right_10)))))) fr S := rfl
def F__law_end_right : FN := bodyF 9 m__law_end_right
def m__law_meets_right_1 : SM := sAsg (gSet 3) (fE (eLc (iSeq (e1 sortSetT (eLc (iSeq (eV 0)) (gSet 5) (bYes) (e2 ixV (eV 5) (eC (.int 0))) [5]))) (gSet 4) (bYes) (eCall 3 F_plan_meets (aC (eV 0) (aC (eV 1) (aC (eV 4) (aN))))) [4]))
def m__law_meets_right_3 : SM := sRet (e2 (eqV false) (eV 3) (e2 mulV (eA mkLst (aC (eC .none) (aN))) (eA1 lenV (eV 3))))
def m__law_meets_right_2 : SM := sIf (bB (e2 (eqV false) (e2 ixV (eV 2) (eC (.int 0))) (eC (.str "ever")))) (m__law_meets_right_3) (sNx)
def m__law_meets_right_5 : SM := sRet (eC (.bool false))
def m__law_meets_right_4 : SM := sIf (bB (e2 (eqV true) (eLc (iSeq (eV 3)) (gSet 6) (bOr (bNot (bTr (e1 (isaV PyData.isInt) (eV 6)))) (bTr (e1 (isaV PyData.isBool) (eV 6)))) (eV 6) [6]) (eA mkLst (aN)))) (m__law_meets_right_5) (sNx)
def m__law_meets_right_6 : SM := sRet (e2 (eqV false) (eA1 sumV (eV 3)) (e2 addV (e2 ixV (eV 2) (eC (.int 1))) (eA1 intV (e2 (eqV true) (e2 ixV (eV 2) (eC (.int 0))) (eC (.str "out"))))))
def m__law_meets_right : SM := sSeq m__law_meets_right_1 (sSeq m__law_meets_right_2 (sSeq m__law_meets_right_4 m__law_meets_right_6))
theorem m__law_meets_right_1_E {fr : Fr} {S : Store} : m__law_meets_right_1 fr S = (sAsg (gSet 3) (fE (eLc (iSeq (e1 sortSetT (eLc (iSeq (eV 0)) (gSet 5) (bYes) (e2 ixV (eV 5) (eC (.int 0))) [5]))) (gSet 4) (bYes) (eCall 3 F_plan_meets (aC (eV 0) (aC (eV 1) (aC (eV 4) (aN))))) [4]))) fr S := rfl
theorem m__law_meets_right_3_E {fr : Fr} {S : Store} : m__law_meets_right_3 fr S = (sRet (e2 (eqV false) (eV 3) (e2 mulV (eA mkLst (aC (eC .none) (aN))) (eA1 lenV (eV 3))))) fr S := rfl
theorem m__law_meets_right_2_E {fr : Fr} {S : Store} : m__law_meets_right_2 fr S = (sIf (bB (e2 (eqV false) (e2 ixV (eV 2) (eC (.int 0))) (eC (.str "ever")))) (m__law_meets_right_3) (sNx)) fr S := rfl
theorem m__law_meets_right_5_E {fr : Fr} {S : Store} : m__law_meets_right_5 fr S = (sRet (eC (.bool false))) fr S := rfl
theorem m__law_meets_right_4_E {fr : Fr} {S : Store} : m__law_meets_right_4 fr S = (sIf (bB (e2 (eqV true) (eLc (iSeq (eV 3)) (gSet 6) (bOr (bNot (bTr (e1 (isaV PyData.isInt) (eV 6)))) (bTr (e1 (isaV PyData.isBool) (eV 6)))) (eV 6) [6]) (eA mkLst (aN)))) (m__law_meets_right_5) (sNx)) fr S := rfl
theorem m__law_meets_right_6_E {fr : Fr} {S : Store} : m__law_meets_right_6 fr S = (sRet (e2 (eqV false) (eA1 sumV (eV 3)) (e2 addV (e2 ixV (eV 2) (eC (.int 1))) (eA1 intV (e2 (eqV true) (e2 ixV (eV 2) (eC (.int 0))) (eC (.str "out"))))))) fr S := rfl
theorem m__law_meets_right_E {fr : Fr} {S : Store} : m__law_meets_right fr S = (sSeq m__law_meets_right_1 (sSeq m__law_meets_right_2 (sSeq m__law_meets_right_4 m__law_meets_right_6))) fr S := rfl
def F__law_meets_right : FN := bodyF 7 m__law_meets_right
def m__law_right_1 : SM := sAsg (gSet 3) (fE (eCall 2 F_plan_walk (aC (eV 1) (aC (eV 2) (aN)))))
def m__law_right_3 : SM := sRet (eC (.bool false))
def m__law_right_2 : SM := sIf (bNot (bTr (eCall 3 F__law_meets_right (aC (eV 1) (aC (eV 2) (aC (eV 3) (aN))))))) (m__law_right_3) (sNx)
def m__law_right_5 : SM := sRet (eC (.bool false))
def m__law_right_4 : SM := sIf (bOr (bB (e2 (eqV true) (eA1 reprVD (eCall 3 F_plan_stand (aC (eV 1) (aC (eV 2) (aC (eC (.int 0)) (aN)))))) (eC (.str "((), 0, 0)")))) (bNot (bTr (eCall 3 F__law_end_right (aC (eV 1) (aC (eV 2) (aC (eV 3) (aN)))))))) (m__law_right_5) (sNx)
def m__law_right_6 : SM := sAsg (gSet 4) (fE (eIf (bB (e2 (isV false) (e2 ixV (eV 3) (eC (.int 1))) (eC .none))) (e2 subV (e2 powV (eC (.int 10)) (eC (.int 40))) (eC (.int 2))) (e2 subV (e2 ixV (eV 3) (eC (.int 1))) (eA1 intV (e2 (eqV false) (e2 ixV (eV 3) (eC (.int 0))) (eC (.str "out")))))))
def m__law_right_9 : SM := sAsg (gSet 6) (fE (eCall 2 F__law_far (aC (eV 0) (aC (eV 4) (aN)))))
def m__law_right_10 : SM := sAsg (gSet 7) (fE (eCall 3 F__law_next (aC (eV 1) (aC (eV 2) (aC (eCall 3 F_plan_stand (aC (eV 1) (aC (eV 2) (aC (eV 6) (aN))))) (aN))))))
def m__law_right_12 : SM := sRet (eC (.bool false))
def m__law_right_11 : SM := sIf (bB (e2 (eqV true) (eA1 reprVD (eCall 3 F_plan_stand (aC (eV 1) (aC (eV 2) (aC (e2 addV (eV 6) (eC (.int 1))) (aN)))))) (eA1 reprVD (eV 7)))) (m__law_right_12) (sNx)
def m__law_right_8 : SM := sIf (bB (e2 gtV (eV 4) (eC (.int 0)))) (sSeq m__law_right_9 (sSeq m__law_right_10 m__law_right_11)) (sNx)
def m__law_right_7 : SM := sFor (gSet 5) (iA rng1V (aC (eC (.int 6)) (aN)))
    (m__law_right_8)
def m__law_right_13 : SM := sRet (eC (.bool true))
def m__law_right : SM := sSeq m__law_right_1 (sSeq m__law_right_2 (sSeq m__law_right_4 (sSeq m__law_right_6 (sSeq m__law_right_7 m__law_right_13))))
theorem m__law_right_1_E {fr : Fr} {S : Store} : m__law_right_1 fr S = (sAsg (gSet 3) (fE (eCall 2 F_plan_walk (aC (eV 1) (aC (eV 2) (aN)))))) fr S := rfl
theorem m__law_right_3_E {fr : Fr} {S : Store} : m__law_right_3 fr S = (sRet (eC (.bool false))) fr S := rfl
theorem m__law_right_2_E {fr : Fr} {S : Store} : m__law_right_2 fr S = (sIf (bNot (bTr (eCall 3 F__law_meets_right (aC (eV 1) (aC (eV 2) (aC (eV 3) (aN))))))) (m__law_right_3) (sNx)) fr S := rfl
theorem m__law_right_5_E {fr : Fr} {S : Store} : m__law_right_5 fr S = (sRet (eC (.bool false))) fr S := rfl
theorem m__law_right_4_E {fr : Fr} {S : Store} : m__law_right_4 fr S = (sIf (bOr (bB (e2 (eqV true) (eA1 reprVD (eCall 3 F_plan_stand (aC (eV 1) (aC (eV 2) (aC (eC (.int 0)) (aN)))))) (eC (.str "((), 0, 0)")))) (bNot (bTr (eCall 3 F__law_end_right (aC (eV 1) (aC (eV 2) (aC (eV 3) (aN)))))))) (m__law_right_5) (sNx)) fr S := rfl
theorem m__law_right_6_E {fr : Fr} {S : Store} : m__law_right_6 fr S = (sAsg (gSet 4) (fE (eIf (bB (e2 (isV false) (e2 ixV (eV 3) (eC (.int 1))) (eC .none))) (e2 subV (e2 powV (eC (.int 10)) (eC (.int 40))) (eC (.int 2))) (e2 subV (e2 ixV (eV 3) (eC (.int 1))) (eA1 intV (e2 (eqV false) (e2 ixV (eV 3) (eC (.int 0))) (eC (.str "out")))))))) fr S := rfl
theorem m__law_right_9_E {fr : Fr} {S : Store} : m__law_right_9 fr S = (sAsg (gSet 6) (fE (eCall 2 F__law_far (aC (eV 0) (aC (eV 4) (aN)))))) fr S := rfl
theorem m__law_right_10_E {fr : Fr} {S : Store} : m__law_right_10 fr S = (sAsg (gSet 7) (fE (eCall 3 F__law_next (aC (eV 1) (aC (eV 2) (aC (eCall 3 F_plan_stand (aC (eV 1) (aC (eV 2) (aC (eV 6) (aN))))) (aN))))))) fr S := rfl
theorem m__law_right_12_E {fr : Fr} {S : Store} : m__law_right_12 fr S = (sRet (eC (.bool false))) fr S := rfl
theorem m__law_right_11_E {fr : Fr} {S : Store} : m__law_right_11 fr S = (sIf (bB (e2 (eqV true) (eA1 reprVD (eCall 3 F_plan_stand (aC (eV 1) (aC (eV 2) (aC (e2 addV (eV 6) (eC (.int 1))) (aN)))))) (eA1 reprVD (eV 7)))) (m__law_right_12) (sNx)) fr S := rfl
theorem m__law_right_8_E {fr : Fr} {S : Store} : m__law_right_8 fr S = (sIf (bB (e2 gtV (eV 4) (eC (.int 0)))) (sSeq m__law_right_9 (sSeq m__law_right_10 m__law_right_11)) (sNx)) fr S := rfl
theorem m__law_right_7_E {fr : Fr} {S : Store} : m__law_right_7 fr S = (sFor (gSet 5) (iA rng1V (aC (eC (.int 6)) (aN)))
    (m__law_right_8)) fr S := rfl
theorem m__law_right_13_E {fr : Fr} {S : Store} : m__law_right_13 fr S = (sRet (eC (.bool true))) fr S := rfl
theorem m__law_right_E {fr : Fr} {S : Store} : m__law_right fr S = (sSeq m__law_right_1 (sSeq m__law_right_2 (sSeq m__law_right_4 (sSeq m__law_right_6 (sSeq m__law_right_7 m__law_right_13))))) fr S := rfl
def F__law_right : FN := bodyF 8 m__law_right
def m_law_1 : SM := sAsg (gSet 1) (fE (eCall 1 F__law_deck (aC (eV 0) (aN))))
def m_law_3 : SM := sAsg (gSet 3) (fE (eCall 2 F__law_signs (aC (eV 1) (aC (e2 addV (eC (.int 2)) (eCall 2 F__law_draw (aC (eV 1) (aC (eC (.int 3)) (aN))))) (aN)))))
def m_law_4 : SM := sAsg (gSet 4) (fE (eCall 3 F__law_plan (aC (eV 1) (aC (eV 3) (aC (e2 addV (eC (.int 1)) (eCall 2 F__law_draw (aC (eV 1) (aC (eC (.int 60)) (aN))))) (aN))))))
def m_law_6 : SM := sRet (eC (.bool false))
def m_law_5 : SM := sIf (bNot (bTr (eA1 allV (eLc (iA rng1V (aC (eC (.int 3)) (aN))) (gSet 5) (bYes) (eCall 3 F__law_right (aC (eV 1) (aC (eV 4) (aC (eCall 4 F__law_robot (aC (eV 1) (aC (eV 3) (aC (eA mkLst (aC (eC (.str "aha")) (aN))) (aC (eC (.int 4)) (aN)))))) (aN))))) [5])))) (m_law_6) (sNx)
def m_law_2 : SM := sFor (gSet 2) (iA rng1V (aC (eC (.int 4)) (aN)))
    (sSeq m_law_3 (sSeq m_law_4 m_law_5))
def m_law_7 : SM := sRet (eC (.bool true))
def m_law : SM := sSeq m_law_1 (sSeq m_law_2 m_law_7)
theorem m_law_1_E {fr : Fr} {S : Store} : m_law_1 fr S = (sAsg (gSet 1) (fE (eCall 1 F__law_deck (aC (eV 0) (aN))))) fr S := rfl
theorem m_law_3_E {fr : Fr} {S : Store} : m_law_3 fr S = (sAsg (gSet 3) (fE (eCall 2 F__law_signs (aC (eV 1) (aC (e2 addV (eC (.int 2)) (eCall 2 F__law_draw (aC (eV 1) (aC (eC (.int 3)) (aN))))) (aN)))))) fr S := rfl
theorem m_law_4_E {fr : Fr} {S : Store} : m_law_4 fr S = (sAsg (gSet 4) (fE (eCall 3 F__law_plan (aC (eV 1) (aC (eV 3) (aC (e2 addV (eC (.int 1)) (eCall 2 F__law_draw (aC (eV 1) (aC (eC (.int 60)) (aN))))) (aN))))))) fr S := rfl
theorem m_law_6_E {fr : Fr} {S : Store} : m_law_6 fr S = (sRet (eC (.bool false))) fr S := rfl
theorem m_law_5_E {fr : Fr} {S : Store} : m_law_5 fr S = (sIf (bNot (bTr (eA1 allV (eLc (iA rng1V (aC (eC (.int 3)) (aN))) (gSet 5) (bYes) (eCall 3 F__law_right (aC (eV 1) (aC (eV 4) (aC (eCall 4 F__law_robot (aC (eV 1) (aC (eV 3) (aC (eA mkLst (aC (eC (.str "aha")) (aN))) (aC (eC (.int 4)) (aN)))))) (aN))))) [5])))) (m_law_6) (sNx)) fr S := rfl
theorem m_law_2_E {fr : Fr} {S : Store} : m_law_2 fr S = (sFor (gSet 2) (iA rng1V (aC (eC (.int 4)) (aN)))
    (sSeq m_law_3 (sSeq m_law_4 m_law_5))) fr S := rfl
theorem m_law_7_E {fr : Fr} {S : Store} : m_law_7 fr S = (sRet (eC (.bool true))) fr S := rfl
theorem m_law_E {fr : Fr} {S : Store} : m_law fr S = (sSeq m_law_1 (sSeq m_law_2 m_law_7)) fr S := rfl
def F_law : FN := bodyF 6 m_law
structure At (K : PySem.W.Frag) (mg : Str → Option Value) where
  f_rule_for : Addr
  d_rule_for : FuncData
  w_rule_for : Fun K "rule_for" "rule_for" s_rule_for f_rule_for d_rule_for
  b_rule_for : Binds K d_rule_for ["robot", "state", "sign", "doors"] []
  g_rule_for : mg "rule_for" = some (.ref f_rule_for)
  f_deed_by : Addr
  d_deed_by : FuncData
  w_deed_by : Fun K "deed_by" "deed_by" s_deed_by f_deed_by d_deed_by
  b_deed_by : Binds K d_deed_by ["robot", "state", "rule"] []
  g_deed_by : mg "deed_by" = some (.ref f_deed_by)
  f_legs_of : Addr
  d_legs_of : FuncData
  w_legs_of : Fun K "legs_of" "legs_of" s_legs_of f_legs_of d_legs_of
  b_legs_of : Binds K d_legs_of ["robot", "sign", "results", "state"] []
  g_legs_of : mg "legs_of" = some (.ref f_legs_of)
  f_room_results : Addr
  d_room_results : FuncData
  w_room_results : Fun K "room_results" "room_results" s_room_results f_room_results d_room_results
  b_room_results : Binds K d_room_results ["robot", "sign", "results"] []
  g_room_results : mg "room_results" = some (.ref f_room_results)
  f_Course___init__ : Addr
  d_Course___init__ : FuncData
  w_Course___init__ : Fun K "__init__" "Course.__init__" s_Course___init__ f_Course___init__ d_Course___init__
  b_Course___init__ : Binds K d_Course___init__ ["self", "plan", "robot"] []
  f_Course_inner : Addr
  d_Course_inner : FuncData
  w_Course_inner : Fun K "inner" "Course.inner" s_Course_inner f_Course_inner d_Course_inner
  b_Course_inner : Binds K d_Course_inner ["self", "entry", "leg"] []
  f_Course_leg_steps : Addr
  d_Course_leg_steps : FuncData
  w_Course_leg_steps : Fun K "leg_steps" "Course.leg_steps" s_Course_leg_steps f_Course_leg_steps d_Course_leg_steps
  b_Course_leg_steps : Binds K d_Course_leg_steps ["self", "entry", "leg"] []
  f_Course_steps_in : Addr
  d_Course_steps_in : FuncData
  w_Course_steps_in : Fun K "steps_in" "Course.steps_in" s_Course_steps_in f_Course_steps_in d_Course_steps_in
  b_Course_steps_in : Binds K d_Course_steps_in ["self", "entry", "state"] []
  f_Course_last_path : Addr
  d_Course_last_path : FuncData
  w_Course_last_path : Fun K "last_path" "Course.last_path" s_Course_last_path f_Course_last_path d_Course_last_path
  b_Course_last_path : Binds K d_Course_last_path ["self"] []
  f_Course_leg_behind : Addr
  d_Course_leg_behind : FuncData
  w_Course_leg_behind : Fun K "leg_behind" "Course.leg_behind" s_Course_leg_behind f_Course_leg_behind d_Course_leg_behind
  b_Course_leg_behind : Binds K d_Course_leg_behind ["self", "entry", "state", "steps"] []
  f_Course_stand_behind : Addr
  d_Course_stand_behind : FuncData
  w_Course_stand_behind : Fun K "stand_behind" "Course.stand_behind" s_Course_stand_behind f_Course_stand_behind d_Course_stand_behind
  b_Course_stand_behind : Binds K d_Course_stand_behind ["self", "steps"] []
  f_Course_stands_with : Addr
  d_Course_stands_with : FuncData
  w_Course_stands_with : Fun K "stands_with" "Course.stands_with" s_Course_stands_with f_Course_stands_with d_Course_stands_with
  b_Course_stands_with : Binds K d_Course_stands_with ["self", "sign"] []
  f_plan_walk : Addr
  d_plan_walk : FuncData
  w_plan_walk : Fun K "plan_walk" "plan_walk" s_plan_walk f_plan_walk d_plan_walk
  b_plan_walk : Binds K d_plan_walk ["plan", "robot"] []
  g_plan_walk : mg "plan_walk" = some (.ref f_plan_walk)
  f_plan_stand : Addr
  d_plan_stand : FuncData
  w_plan_stand : Fun K "plan_stand" "plan_stand" s_plan_stand f_plan_stand d_plan_stand
  b_plan_stand : Binds K d_plan_stand ["plan", "robot", "steps"] []
  g_plan_stand : mg "plan_stand" = some (.ref f_plan_stand)
  f_plan_meets : Addr
  d_plan_meets : FuncData
  w_plan_meets : Fun K "plan_meets" "plan_meets" s_plan_meets f_plan_meets d_plan_meets
  b_plan_meets : Binds K d_plan_meets ["plan", "robot", "sign"] []
  g_plan_meets : mg "plan_meets" = some (.ref f_plan_meets)
  f__law_deck : Addr
  d__law_deck : FuncData
  w__law_deck : Fun K "_law_deck" "_law_deck" s__law_deck f__law_deck d__law_deck
  b__law_deck : Binds K d__law_deck ["_law_script"] []
  g__law_deck : mg "_law_deck" = some (.ref f__law_deck)
  f__law_draw : Addr
  d__law_draw : FuncData
  w__law_draw : Fun K "_law_draw" "_law_draw" s__law_draw f__law_draw d__law_draw
  b__law_draw : Binds K d__law_draw ["_law_deck_here", "_law_many"] []
  g__law_draw : mg "_law_draw" = some (.ref f__law_draw)
  f__law_one : Addr
  d__law_one : FuncData
  w__law_one : Fun K "_law_one" "_law_one" s__law_one f__law_one d__law_one
  b__law_one : Binds K d__law_one ["_law_deck_here", "_law_items"] []
  g__law_one : mg "_law_one" = some (.ref f__law_one)
  f__law_signs : Addr
  d__law_signs : FuncData
  w__law_signs : Fun K "_law_signs" "_law_signs" s__law_signs f__law_signs d__law_signs
  b__law_signs : Binds K d__law_signs ["_law_deck_here", "_law_many"] []
  g__law_signs : mg "_law_signs" = some (.ref f__law_signs)
  f__law_plan : Addr
  d__law_plan : FuncData
  w__law_plan : Fun K "_law_plan" "_law_plan" s__law_plan f__law_plan d__law_plan
  b__law_plan : Binds K d__law_plan ["_law_deck_here", "_law_signs_here", "_law_many"] []
  g__law_plan : mg "_law_plan" = some (.ref f__law_plan)
  f__law_robot : Addr
  d__law_robot : FuncData
  w__law_robot : Fun K "_law_robot" "_law_robot" s__law_robot f__law_robot d__law_robot
  b__law_robot : Binds K d__law_robot ["_law_deck_here", "_law_signs_here", "_law_words", "_law_most"] []
  g__law_robot : mg "_law_robot" = some (.ref f__law_robot)
  f__law_next : Addr
  d__law_next : FuncData
  w__law_next : Fun K "_law_next" "_law_next" s__law_next f__law_next d__law_next
  b__law_next : Binds K d__law_next ["_law_plan_here", "_law_robot_here", "_law_stand"] []
  g__law_next : mg "_law_next" = some (.ref f__law_next)
  f__law_far : Addr
  d__law_far : FuncData
  w__law_far : Fun K "_law_far" "_law_far" s__law_far f__law_far d__law_far
  b__law_far : Binds K d__law_far ["_law_deck_here", "_law_bound"] []
  g__law_far : mg "_law_far" = some (.ref f__law_far)
  f__law_end_right : Addr
  d__law_end_right : FuncData
  w__law_end_right : Fun K "_law_end_right" "_law_end_right" s__law_end_right f__law_end_right d__law_end_right
  b__law_end_right : Binds K d__law_end_right ["_law_plan_here", "_law_robot_here", "_law_told"] []
  g__law_end_right : mg "_law_end_right" = some (.ref f__law_end_right)
  f__law_meets_right : Addr
  d__law_meets_right : FuncData
  w__law_meets_right : Fun K "_law_meets_right" "_law_meets_right" s__law_meets_right f__law_meets_right d__law_meets_right
  b__law_meets_right : Binds K d__law_meets_right ["_law_plan_here", "_law_robot_here", "_law_told"] []
  g__law_meets_right : mg "_law_meets_right" = some (.ref f__law_meets_right)
  f__law_right : Addr
  d__law_right : FuncData
  w__law_right : Fun K "_law_right" "_law_right" s__law_right f__law_right d__law_right
  b__law_right : Binds K d__law_right ["_law_deck_here", "_law_plan_here", "_law_robot_here"] []
  g__law_right : mg "_law_right" = some (.ref f__law_right)
  f_law : Addr
  d_law : FuncData
  w_law : Fun K "law" "law" s_law f_law d_law
  b_law : Binds K d_law ["_law_script"] []
  g_law : mg "law" = some (.ref f_law)
  ca_Course : Addr
  cm_Course : ClsM K mg "Course" ca_Course
  mk_Course : Mk K ca_Course f_Course___init__
  na_Course_plan : HasNo K ca_Course "plan"
  na_Course_results : HasNo K ca_Course "results"
  na_Course_legs : HasNo K ca_Course "legs"
  na_Course_steps : HasNo K ca_Course "steps"
  mt_Course___init__ : Meth K ca_Course "__init__" f_Course___init__
  mt_Course_inner : Meth K ca_Course "inner" f_Course_inner
  mt_Course_leg_steps : Meth K ca_Course "leg_steps" f_Course_leg_steps
  mt_Course_steps_in : Meth K ca_Course "steps_in" f_Course_steps_in
  mt_Course_last_path : Meth K ca_Course "last_path" f_Course_last_path
  mt_Course_leg_behind : Meth K ca_Course "leg_behind" f_Course_leg_behind
  mt_Course_stand_behind : Meth K ca_Course "stand_behind" f_Course_stand_behind
  mt_Course_stands_with : Meth K ca_Course "stands_with" f_Course_stands_with
  z_abs : mg "abs" = none
  z_all : mg "all" = none
  z_bool : mg "bool" = none
  z_enumerate : mg "enumerate" = none
  z_int : mg "int" = none
  z_isinstance : mg "isinstance" = none
  z_len : mg "len" = none
  z_range : mg "range" = none
  z_repr : mg "repr" = none
  z_set : mg "set" = none
  z_sorted : mg "sorted" = none
  z_sum : mg "sum" = none
  z_tuple : mg "tuple" = none
  t_EVER : Tok
  c_EVER : mg "EVER" = some (.str "ever" t_EVER)
  t_LOST : Tok
  c_LOST : mg "LOST" = some (.str "lost" t_LOST)
  t_OUT : Tok
  c_OUT : mg "OUT" = some (.str "out" t_OUT)
section
variable {P : Program} {w : World} {K : PySem.W.Frag} {mg : Str → Option Value} {base : Heap}
theorem sc_rule_for : FnScope N_rule_for ["robot", "state", "sign", "doors"] (defScope s_rule_for) := ⟨rfl, rfl, rfl, by decide +kernel, rfl, by decide +kernel, by decide +kernel⟩
theorem sc_deed_by : FnScope N_deed_by ["robot", "state", "rule"] (defScope s_deed_by) := ⟨rfl, rfl, rfl, by decide +kernel, rfl, by decide +kernel, by decide +kernel⟩
theorem sc_legs_of : FnScope N_legs_of ["robot", "sign", "results", "state"] (defScope s_legs_of) := ⟨rfl, rfl, rfl, by decide +kernel, rfl, by decide +kernel, by decide +kernel⟩
theorem sc_room_results : FnScope N_room_results ["robot", "sign", "results"] (defScope s_room_results) := ⟨rfl, rfl, rfl, by decide +kernel, rfl, by decide +kernel, by decide +kernel⟩
theorem sc_Course___init__ : FnScope N_Course___init__ ["self", "plan", "robot"] (defScope s_Course___init__) := ⟨rfl, rfl, rfl, by decide +kernel, rfl, by decide +kernel, by decide +kernel⟩
theorem sc_Course_inner : FnScope N_Course_inner ["self", "entry", "leg"] (defScope s_Course_inner) := ⟨rfl, rfl, rfl, by decide +kernel, rfl, by decide +kernel, by decide +kernel⟩
theorem sc_Course_leg_steps : FnScope N_Course_leg_steps ["self", "entry", "leg"] (defScope s_Course_leg_steps) := ⟨rfl, rfl, rfl, by decide +kernel, rfl, by decide +kernel, by decide +kernel⟩
theorem sc_Course_steps_in : FnScope N_Course_steps_in ["self", "entry", "state"] (defScope s_Course_steps_in) := ⟨rfl, rfl, rfl, by decide +kernel, rfl, by decide +kernel, by decide +kernel⟩
theorem sc_Course_last_path : FnScope N_Course_last_path ["self"] (defScope s_Course_last_path) := ⟨rfl, rfl, rfl, by decide +kernel, rfl, by decide +kernel, by decide +kernel⟩
theorem sc_Course_leg_behind : FnScope N_Course_leg_behind ["self", "entry", "state", "steps"] (defScope s_Course_leg_behind) := ⟨rfl, rfl, rfl, by decide +kernel, rfl, by decide +kernel, by decide +kernel⟩
theorem sc_Course_stand_behind : FnScope N_Course_stand_behind ["self", "steps"] (defScope s_Course_stand_behind) := ⟨rfl, rfl, rfl, by decide +kernel, rfl, by decide +kernel, by decide +kernel⟩
theorem sc_Course_stands_with : FnScope N_Course_stands_with ["self", "sign"] (defScope s_Course_stands_with) := ⟨rfl, rfl, rfl, by decide +kernel, rfl, by decide +kernel, by decide +kernel⟩
theorem sc_plan_walk : FnScope N_plan_walk ["plan", "robot"] (defScope s_plan_walk) := ⟨rfl, rfl, rfl, by decide +kernel, rfl, by decide +kernel, by decide +kernel⟩
theorem sc_plan_stand : FnScope N_plan_stand ["plan", "robot", "steps"] (defScope s_plan_stand) := ⟨rfl, rfl, rfl, by decide +kernel, rfl, by decide +kernel, by decide +kernel⟩
theorem sc_plan_meets : FnScope N_plan_meets ["plan", "robot", "sign"] (defScope s_plan_meets) := ⟨rfl, rfl, rfl, by decide +kernel, rfl, by decide +kernel, by decide +kernel⟩
theorem sc__law_deck : FnScope N__law_deck ["_law_script"] (defScope s__law_deck) := ⟨rfl, rfl, rfl, by decide +kernel, rfl, by decide +kernel, by decide +kernel⟩
theorem sc__law_draw : FnScope N__law_draw ["_law_deck_here", "_law_many"] (defScope s__law_draw) := ⟨rfl, rfl, rfl, by decide +kernel, rfl, by decide +kernel, by decide +kernel⟩
theorem sc__law_one : FnScope N__law_one ["_law_deck_here", "_law_items"] (defScope s__law_one) := ⟨rfl, rfl, rfl, by decide +kernel, rfl, by decide +kernel, by decide +kernel⟩
theorem sc__law_signs : FnScope N__law_signs ["_law_deck_here", "_law_many"] (defScope s__law_signs) := ⟨rfl, rfl, rfl, by decide +kernel, rfl, by decide +kernel, by decide +kernel⟩
theorem sc__law_plan : FnScope N__law_plan ["_law_deck_here", "_law_signs_here", "_law_many"] (defScope s__law_plan) := ⟨rfl, rfl, rfl, by decide +kernel, rfl, by decide +kernel, by decide +kernel⟩
theorem sc__law_robot : FnScope N__law_robot ["_law_deck_here", "_law_signs_here", "_law_words", "_law_most"] (defScope s__law_robot) := ⟨rfl, rfl, rfl, by decide +kernel, rfl, by decide +kernel, by decide +kernel⟩
theorem sc__law_next : FnScope N__law_next ["_law_plan_here", "_law_robot_here", "_law_stand"] (defScope s__law_next) := ⟨rfl, rfl, rfl, by decide +kernel, rfl, by decide +kernel, by decide +kernel⟩
theorem sc__law_far : FnScope N__law_far ["_law_deck_here", "_law_bound"] (defScope s__law_far) := ⟨rfl, rfl, rfl, by decide +kernel, rfl, by decide +kernel, by decide +kernel⟩
theorem sc__law_end_right : FnScope N__law_end_right ["_law_plan_here", "_law_robot_here", "_law_told"] (defScope s__law_end_right) := ⟨rfl, rfl, rfl, by decide +kernel, rfl, by decide +kernel, by decide +kernel⟩
theorem sc__law_meets_right : FnScope N__law_meets_right ["_law_plan_here", "_law_robot_here", "_law_told"] (defScope s__law_meets_right) := ⟨rfl, rfl, rfl, by decide +kernel, rfl, by decide +kernel, by decide +kernel⟩
theorem sc__law_right : FnScope N__law_right ["_law_deck_here", "_law_plan_here", "_law_robot_here"] (defScope s__law_right) := ⟨rfl, rfl, rfl, by decide +kernel, rfl, by decide +kernel, by decide +kernel⟩
theorem sc_law : FnScope N_law ["_law_script"] (defScope s_law) := ⟨rfl, rfl, rfl, by decide +kernel, rfl, by decide +kernel, by decide +kernel⟩
theorem ok_rule_for (e : At K mg) : FnG P w K mg base 1 e.f_rule_for e.d_rule_for ["robot", "state", "sign", "doors"] (spOf ⟨w, K, mg⟩ 4 F_rule_for) :=
  def_ok (k := 0) (n := 4) (N := N_rule_for) (m := m_rule_for) (O' := []) e.w_rule_for sc_rule_for rfl fun cdv A outer s H E c =>
    (css_cons (O1 := [false, false, false, false, false, false])
    (cs_for (O1 := [false, false, false, false, false, false]) c.ps rfl (ci_enum rfl e.z_enumerate (ca_cons (ce_ix ix_seq p_ix (cv_of (ce_var 0)) (cv_of (ce_var 1)) (fun _ _ => rfl)) ca_nil)) (cg_tup rfl (cgs_cons (cg_name 4 sc_rule_for.nd) (cgs_cons (cg_name 5 sc_rule_for.nd) cgs_nil)))
    (css_one (cs_if (O' := [false, false, false, false, false, false]) (ct_w (cw_and (ct_cmp (op_inR c.hr) p_in (cv_of (ce_ix ix_seq p_ix (cv_of (ce_var 5)) (cv_of ce_int) (fun _ _ => rfl))) (cv_of (ce_tup (ca_cons ce_non (ca_cons (ce_var 2) ca_nil)))) rfl) (cw_and1 (ct_cmp (op_inR c.hr) p_in (cv_of (ce_ix ix_seq p_ix (cv_of (ce_var 5)) (cv_of ce_int) (fun _ _ => rfl))) (cv_of (ce_tup (ca_cons ce_non (ca_cons (ce_var 3) ca_nil)))) rfl)))) (css_one (cs_ret (ce_var 4))) css_nil)))
    (css_one (cs_ret ce_non)))
theorem ok_deed_by (e : At K mg) : FnG P w K mg base 1 e.f_deed_by e.d_deed_by ["robot", "state", "rule"] (spOf ⟨w, K, mg⟩ 3 F_deed_by) :=
  def_ok (k := 0) (n := 3) (N := N_deed_by) (m := m_deed_by) (O' := []) e.w_deed_by sc_deed_by rfl fun cdv A outer s H E c =>
    (css_one (cs_ret (ce_if (ct_cmp op_isN p_is (cv_of (ce_var 2)) (cv_of ce_non) (nomark _)) (ce_tup (ca_cons ce_str (ca_cons (ce_glob (v := .str "lost") rfl e.c_LOST ⟨_, rfl⟩ (fun _ _ => .str _)) ca_nil))) (ce_ix ix_seq p_ix (cv_of (ce_ix ix_seq p_ix (cv_of (ce_ix ix_seq p_ix (cv_of (ce_var 0)) (cv_of (ce_var 1)) (fun _ _ => rfl))) (cv_of (ce_var 2)) (fun _ _ => rfl))) (cv_of ce_int) (fun _ _ => rfl)))))
theorem ok_legs_of (e : At K mg) : FnG P w K mg base 2 e.f_legs_of e.d_legs_of ["robot", "sign", "results", "state"] (spOf ⟨w, K, mg⟩ 4 F_legs_of) :=
  def_ok (k := 1) (n := 4) (N := N_legs_of) (m := m_legs_of) (O' := []) e.w_legs_of sc_legs_of rfl fun cdv A outer s H E c =>
    (css_cons (O1 := [false, false, false, false, false, false, true, true, false, false, false, false])
    (cs_parT (is := [4, 5, 6, 7]) (os := [false, false, true, true]) rfl (cao_val (ce_op op_addR p_add (cv_of ce_int) (cv_of (ce_len e.z_len (cv_of (ce_var 2))))) (cao_val ce_int (cao_own (cn_lst ca_nil) (cao_own cn_dict0 cao_nil)))) rfl (by decide) (pgs_cons (pg_name (i := 4) sc_legs_of.nd rfl (by first | exact Or.inl rfl | exact Or.inr rfl)) (pgs_cons (pg_name (i := 5) sc_legs_of.nd rfl (by first | exact Or.inl rfl | exact Or.inr rfl)) (pgs_cons (pg_name (i := 6) sc_legs_of.nd rfl (by first | exact Or.inl rfl | exact Or.inr rfl)) (pgs_cons (pg_name (i := 7) sc_legs_of.nd rfl (by first | exact Or.inl rfl | exact Or.inr rfl)) pgs_nil)))))
    (css_cons (O1 := [false, false, false, false, false, false, true, true, false, false, false, false])
    (cs_while c.ps (ct_cmp (op_notInD c.hr) p_inD (cv_of (ce_tup (ca_cons (ce_var 5) (ca_cons (ce_var 3) ca_nil)))) (cv_ownD 7) rfl) (css_cons (O1 := [false, false, false, false, false, false, true, true, false, false, false, false])
    (cs_putD 7 rfl (ps_asg (ce_len e.z_len (cv_own 6)) (pg_sub (pv 7) (ce_tup (ca_cons (ce_var 5) (ca_cons (ce_var 3) ca_nil))) (set_dict c.hr))))
    (css_cons (O1 := [false, false, false, false, false, false, true, true, false, false, false, false])
    (cs_set 8 sc_legs_of.nd (ce_call ((ok_rule_for e).mono (by decide)) c.hr c.hs rfl e.g_rule_for e.w_rule_for.kp e.b_rule_for c.tk (ca_cons (ce_var 0) (ca_cons (ce_var 3) (ca_cons (ce_var 1) (ca_cons (ce_var 4) ca_nil))))))
    (css_cons (O1 := [false, false, false, false, false, false, true, true, false, false, false, false])
    (cs_set 9 sc_legs_of.nd (ce_call ((ok_deed_by e).mono (by decide)) c.hr c.hs rfl e.g_deed_by e.w_deed_by.kp e.b_deed_by c.tk (ca_cons (ce_var 0) (ca_cons (ce_var 3) (ca_cons (ce_var 8) ca_nil)))))
    (css_cons (O1 := [false, false, false, false, false, false, true, true, false, false, false, false])
    (cs_if (O' := [false, false, false, false, false, false, true, true, false, false, false, false]) (ct_cmp (op_eqR c.hr) p_eq (cv_of (ce_ix ix_seq p_ix (cv_of (ce_var 9)) (cv_of ce_int) (fun _ _ => rfl))) (cv_of ce_str) (nomark _)) (css_one (cs_ret (ce_tup (ca_cons (ce_op op_addR p_add (cv_own 6) (cv_of (ce_lst (ca_cons (ce_tup (ca_cons (ce_var 5) (ca_cons (ce_var 3) (ca_cons (ce_var 8) (ca_cons ce_non (ca_cons ce_non ca_nil)))))) ca_nil)))) (ca_cons (ce_var 9) (ca_cons ce_non ca_nil)))))) css_nil)
    (css_cons (O1 := [false, false, false, false, false, false, true, true, false, false, false, false])
    (cs_set 10 sc_legs_of.nd (ce_op op_mod p_mod (cv_of (ce_op op_addR p_add (cv_of (ce_var 5)) (cv_of (ce_ix ix_seq p_ix (cv_of (ce_var 9)) (cv_of ce_int) (fun _ _ => rfl))))) (cv_of (ce_var 4))))
    (css_cons (O1 := [false, false, false, false, false, false, true, true, false, false, false, false])
    (cs_if (O' := [false, false, false, false, false, false, true, true, false, false, false, false]) (ct_cmp (op_eqR c.hr) p_eq (cv_of (ce_var 10)) (cv_of ce_int) (nomark _)) (css_one (cs_ret (ce_tup (ca_cons (ce_op op_addR p_add (cv_own 6) (cv_of (ce_lst (ca_cons (ce_tup (ca_cons (ce_var 5) (ca_cons (ce_var 3) (ca_cons (ce_var 8) (ca_cons ce_non (ca_cons (ce_ix ix_seq p_ix (cv_of (ce_var 9)) (cv_of ce_int) (fun _ _ => rfl)) ca_nil)))))) ca_nil)))) (ca_cons (ce_tup (ca_cons (ce_glob (v := .str "out") rfl e.c_OUT ⟨_, rfl⟩ (fun _ _ => .str _)) (ca_cons (ce_ix ix_seq p_ix (cv_of (ce_var 9)) (cv_of ce_int) (fun _ _ => rfl)) ca_nil))) (ca_cons ce_non ca_nil)))))) css_nil)
    (css_cons (O1 := [false, false, false, false, false, false, true, true, false, false, false, false])
    (cs_app 6 rfl (ps_expr (pe_bm F.plainAttrs_list F.slot_list_append F.type_list_append mt_append (pv 6) (pa_cons (ce_tup (ca_cons (ce_var 5) (ca_cons (ce_var 3) (ca_cons (ce_var 8) (ca_cons (ce_op op_sub p_sub (cv_of (ce_var 10)) (cv_of ce_int)) (ca_cons (ce_ix ix_seq p_ix (cv_of (ce_var 9)) (cv_of ce_int) (fun _ _ => rfl)) ca_nil)))))) pa_nil))))
    (css_cons (O1 := [false, false, false, false, false, false, true, true, false, false, false, false])
    (cs_set 11 sc_legs_of.nd (ce_ix ix_seq p_ix (cv_of (ce_ix ix_seq p_ix (cv_of (ce_var 2)) (cv_of (ce_op op_sub p_sub (cv_of (ce_var 10)) (cv_of ce_int))) (fun _ _ => rfl))) (cv_of (ce_ix ix_seq p_ix (cv_of (ce_var 9)) (cv_of ce_int) (fun _ _ => rfl))) (fun _ _ => rfl)))
    (css_cons (O1 := [false, false, false, false, false, false, true, true, false, false, false, false])
    (cs_if (O' := [false, false, false, false, false, false, true, true, false, false, false, false]) (ct_cmp (op_neR c.hr) p_eq (cv_of (ce_ix ix_seq p_ix (cv_of (ce_var 11)) (cv_of ce_int) (fun _ _ => rfl))) (cv_of (ce_glob (v := .str "out") rfl e.c_OUT ⟨_, rfl⟩ (fun _ _ => .str _))) (nomark _)) (css_let [false, false, false, false, false, false, false, true, false, false, false, false] (css_one (cs_ret (ce_tup (ca_cons (ce_var 6) (ca_cons (ce_var 11) (ca_cons ce_non ca_nil))))))) css_nil)
    (css_one (cs_par2 5 3 (os := [false, false]) rfl sc_legs_of.nd (cao_val (ce_var 10) (cao_val (ce_ix ix_seq p_ix (cv_of (ce_var 11)) (cv_of ce_int) (fun _ _ => rfl)) cao_nil))))))))))))))
    (css_let [false, false, false, false, false, false, false, true, false, false, false, false] (css_one (cs_ret (ce_tup (ca_cons (ce_var 6) (ca_cons (ce_tup (ca_cons (ce_glob (v := .str "ever") rfl e.c_EVER ⟨_, rfl⟩ (fun _ _ => .str _)) ca_nil)) (ca_cons (ce_ix (ix_dict c.hr) p_ixD (cv_ownD 7) (cv_of (ce_tup (ca_cons (ce_var 5) (ca_cons (ce_var 3) ca_nil)))) (fun _ _ => rfl)) ca_nil)))))))))
theorem ok_room_results (e : At K mg) : FnG P w K mg base 3 e.f_room_results e.d_room_results ["robot", "sign", "results"] (spOf ⟨w, K, mg⟩ 3 F_room_results) :=
  def_ok (k := 2) (n := 3) (N := N_room_results) (m := m_room_results) (O' := []) e.w_room_results sc_room_results rfl fun cdv A outer s H E c =>
    (css_one (cs_ret (ce_totup e.z_tuple (cv_of (ce_of_cn (cn_lc rfl sc_room_results.nd (own := [("state", 3)]) (cis_of (ci_range1 rfl e.z_range (ca_cons (ce_len e.z_len (cv_of (ce_var 0))) ca_nil))) (blkOk_by (N := N_room_results) (sc := (defScope s_room_results)) (by decide +kernel)) (fun _ _ _ _ _ => (cg_name 3 sc_room_results.nd)) (fun _ _ _ _ _ => cts_nil) (fun _ _ _ _ _ => (ce_ix ix_seq p_ix (cv_of (ce_call ((ok_legs_of e).mono (by decide)) c.hr c.hs rfl e.g_legs_of e.w_legs_of.kp e.b_legs_of lets_no (ca_cons (ce_var 0) (ca_cons (ce_var 1) (ca_cons (ce_var 2) (ca_cons (ce_var 3) ca_nil)))))) (cv_of ce_int) (fun _ _ => rfl)))))))))
theorem ok_Course_inner (e : At K mg) : FnG P w K mg base 1 e.f_Course_inner e.d_Course_inner ["self", "entry", "leg"] (spOf ⟨w, K, mg⟩ 3 F_Course_inner) :=
  def_ok (k := 0) (n := 3) (N := N_Course_inner) (m := m_Course_inner) (O' := []) e.w_Course_inner sc_Course_inner rfl fun cdv A outer s H E c =>
    (css_one (cs_ret (ce_ix ix_seq p_ix (cv_of (ce_ix ix_seq p_ix (cv_of (ce_ix ix_seq p_ix (cv_of (ce_fld e.cm_Course e.na_Course_plan (ce_var 0))) (cv_of (ce_var 1)) (fun _ _ => rfl))) (cv_of ce_int) (fun _ _ => rfl))) (cv_of (ce_ix ix_seq p_ix (cv_of (ce_var 2)) (cv_of ce_int) (fun _ _ => rfl))) (fun _ _ => rfl))))
theorem ok_Course_leg_steps (e : At K mg) : FnG P w K mg base 2 e.f_Course_leg_steps e.d_Course_leg_steps ["self", "entry", "leg"] (spOf ⟨w, K, mg⟩ 3 F_Course_leg_steps) :=
  def_ok (k := 1) (n := 3) (N := N_Course_leg_steps) (m := m_Course_leg_steps) (O' := []) e.w_Course_leg_steps sc_Course_leg_steps rfl fun cdv A outer s H E c =>
    (css_cons (O1 := [false, false, false, false])
    (cs_if (O' := [false, false, false, false]) (ct_cmp op_isN p_is (cv_of (ce_ix ix_seq p_ix (cv_of (ce_var 2)) (cv_of ce_int) (fun _ _ => rfl))) (cv_of ce_non) (nomark _)) (css_one (cs_ret (ce_if (ct_cmp op_isN p_is (cv_of (ce_ix ix_seq p_ix (cv_of (ce_var 2)) (cv_of ce_int) (fun _ _ => rfl))) (cv_of ce_non) (nomark _)) ce_int ce_int))) css_nil)
    (css_cons (O1 := [false, false, false, false])
    (cs_set 3 sc_Course_leg_steps.nd (ce_ix ix_seq p_ix (cv_of (ce_ix ix_seq p_ix (cv_of (ce_fld e.cm_Course e.na_Course_steps (ce_var 0))) (cv_of (ce_meth e.cm_Course e.mt_Course_inner ((ok_Course_inner e).mono (by decide)) c.hr c.hs e.b_Course_inner c.tk (ce_var 0) (ca_cons (ce_var 1) (ca_cons (ce_var 2) ca_nil)))) (fun _ _ => rfl))) (cv_of (ce_ix ix_seq p_ix (cv_of (ce_var 2)) (cv_of ce_int) (fun _ _ => rfl))) (fun _ _ => rfl)))
    (css_one (cs_ret (ce_if (ct_cmp op_isN p_is (cv_of (ce_var 3)) (cv_of ce_non) (nomark _)) ce_non (ce_op op_addR p_add (cv_of ce_int) (cv_of (ce_var 3))))))))
theorem ok_Course_steps_in (e : At K mg) : FnG P w K mg base 3 e.f_Course_steps_in e.d_Course_steps_in ["self", "entry", "state"] (spOf ⟨w, K, mg⟩ 3 F_Course_steps_in) :=
  def_ok (k := 2) (n := 3) (N := N_Course_steps_in) (m := m_Course_steps_in) (O' := []) e.w_Course_steps_in sc_Course_steps_in rfl fun cdv A outer s H E c =>
    (css_cons (O1 := [false, false, false, false, false, false, false])
    (cs_asg (cf_of (ce_ix ix_seq p_ix (cv_of (ce_ix ix_seq p_ix (cv_of (ce_fld e.cm_Course e.na_Course_legs (ce_var 0))) (cv_of (ce_var 1)) (fun _ _ => rfl))) (cv_of (ce_var 2)) (fun _ _ => rfl))) (cg_tup rfl (cgs_cons (cg_name 3 sc_Course_steps_in.nd) (cgs_cons (cg_name 4 sc_Course_steps_in.nd) (cgs_cons (cg_name 5 sc_Course_steps_in.nd) cgs_nil)))))
    (css_cons (O1 := [false, false, false, false, false, false, false])
    (cs_if (O' := [false, false, false, false, false, false, false]) (ct_cmp (op_eqR c.hr) p_eq (cv_of (ce_ix ix_seq p_ix (cv_of (ce_var 4)) (cv_of ce_int) (fun _ _ => rfl))) (cv_of (ce_glob (v := .str "ever") rfl e.c_EVER ⟨_, rfl⟩ (fun _ _ => .str _))) (nomark _)) (css_one (cs_ret ce_non)) css_nil)
    (css_one (cs_ret (ce_sum rfl e.z_sum (cv_of (ce_of_cn (cn_lc rfl sc_Course_steps_in.nd (own := [("leg", 6)]) (cis_any (cv_of (ce_var 3))) (blkOk_by (N := N_Course_steps_in) (sc := (defScope s_Course_steps_in)) (by decide +kernel)) (fun _ _ _ _ _ => (cg_name 6 sc_Course_steps_in.nd)) (fun _ _ _ _ _ => cts_nil) (fun _ _ _ _ _ => (ce_meth e.cm_Course e.mt_Course_leg_steps ((ok_Course_leg_steps e).mono (by decide)) c.hr c.hs e.b_Course_leg_steps lets_no (ce_var 0) (ca_cons (ce_var 1) (ca_cons (ce_var 6) ca_nil))))))))))))
theorem ok_Course___init__ (e : At K mg) : FnG P w K mg base 4 e.f_Course___init__ e.d_Course___init__ ["self", "plan", "robot"] (spOf ⟨w, K, mg⟩ 3 F_Course___init__) :=
  def_ok (k := 3) (n := 3) (N := N_Course___init__) (m := m_Course___init__) (O' := [false, false, false, false, false, false, false, false, false]) e.w_Course___init__ sc_Course___init__ rfl fun cdv A outer s H E c =>
    (css_cons (O1 := [false, false, false, false, false, false, false, false, false])
    (cs_fld e.cm_Course e.na_Course_plan (ce_var 1) (ce_var 0))
    (css_cons (O1 := [false, false, false, false, false, false, false, false, false])
    (cs_fld e.cm_Course e.na_Course_results (ce_obj ca_nil) (ce_var 0))
    (css_cons (O1 := [false, false, false, false, false, false, false, false, false])
    (cs_fld e.cm_Course e.na_Course_legs (ce_obj ca_nil) (ce_var 0))
    (css_cons (O1 := [false, false, false, false, false, false, false, false, false])
    (cs_for (O1 := [false, false, false, false, false, false, false, false, false]) c.ps rfl (ci_any (ce_var 1)) (cg_tup rfl (cgs_cons (cg_name 3 sc_Course___init__.nd) (cgs_cons (cg_name 4 sc_Course___init__.nd) cgs_nil)))
    (css_cons (O1 := [false, false, false, false, false, false, false, false, false])
    (cs_set 5 sc_Course___init__.nd (ce_totup e.z_tuple (cv_of (ce_of_cn (cn_lc rfl sc_Course___init__.nd (own := [("number", 7)]) (cis_any (cv_of (ce_var 4))) (blkOk_by (N := N_Course___init__) (sc := (defScope s_Course___init__)) (by decide +kernel)) (fun _ _ _ _ _ => (cg_name 7 sc_Course___init__.nd)) (fun _ _ _ _ _ => cts_nil) (fun _ _ _ _ _ => (ce_ix ix_seq p_ix (cv_of (ce_fld e.cm_Course e.na_Course_results (ce_var 0))) (cv_of (ce_var 7)) (fun _ _ => rfl))))))))
    (css_cons (O1 := [false, false, false, false, false, false, false, false, false])
    (cs_appO (ps_expr (pe_bm F.plainAttrs_list F.slot_list_append F.type_list_append mt_append (ce_fld e.cm_Course e.na_Course_results (ce_var 0)) (pa_cons (ce_call ((ok_room_results e).mono (by decide)) c.hr c.hs rfl e.g_room_results e.w_room_results.kp e.b_room_results c.tk (ca_cons (ce_var 2) (ca_cons (ce_var 3) (ca_cons (ce_var 5) ca_nil)))) pa_nil))))
    (css_one (cs_appO (ps_expr (pe_bm F.plainAttrs_list F.slot_list_append F.type_list_append mt_append (ce_fld e.cm_Course e.na_Course_legs (ce_var 0)) (pa_cons (ce_of_cn (cn_lc rfl sc_Course___init__.nd (own := [("state", 8)]) (cis_of (ci_range1 rfl e.z_range (ca_cons (ce_len e.z_len (cv_of (ce_var 2))) ca_nil))) (blkOk_by (N := N_Course___init__) (sc := (defScope s_Course___init__)) (by decide +kernel)) (fun _ _ _ _ _ => (cg_name 8 sc_Course___init__.nd)) (fun _ _ _ _ _ => cts_nil) (fun _ _ _ _ _ => (ce_call ((ok_legs_of e).mono (by decide)) c.hr c.hs rfl e.g_legs_of e.w_legs_of.kp e.b_legs_of lets_no (ca_cons (ce_var 2) (ca_cons (ce_var 3) (ca_cons (ce_var 5) (ca_cons (ce_var 8) ca_nil)))))))) pa_nil))))))))
    (css_cons (O1 := [false, false, false, false, false, false, false, false, false])
    (cs_fld e.cm_Course e.na_Course_steps (ce_obj ca_nil) (ce_var 0))
    (css_one (cs_for (O1 := [false, false, false, false, false, false, false, false, false]) c.ps rfl (ci_range1 rfl e.z_range (ca_cons (ce_len e.z_len (cv_of (ce_var 1))) ca_nil)) (cg_name 6 sc_Course___init__.nd)
    (css_one (cs_appO (ps_expr (pe_bm F.plainAttrs_list F.slot_list_append F.type_list_append mt_append (ce_fld e.cm_Course e.na_Course_steps (ce_var 0)) (pa_cons (ce_of_cn (cn_lc rfl sc_Course___init__.nd (own := [("state", 8)]) (cis_of (ci_range1 rfl e.z_range (ca_cons (ce_len e.z_len (cv_of (ce_var 2))) ca_nil))) (blkOk_by (N := N_Course___init__) (sc := (defScope s_Course___init__)) (by decide +kernel)) (fun _ _ _ _ _ => (cg_name 8 sc_Course___init__.nd)) (fun _ _ _ _ _ => cts_nil) (fun _ _ _ _ _ => (ce_meth e.cm_Course e.mt_Course_steps_in ((ok_Course_steps_in e).mono (by decide)) c.hr c.hs e.b_Course_steps_in lets_no (ce_var 0) (ca_cons (ce_var 6) (ca_cons (ce_var 8) ca_nil)))))) pa_nil))))))))))))
theorem ok_Course_last_path (e : At K mg) : FnG P w K mg base 2 e.f_Course_last_path e.d_Course_last_path ["self"] (spOf ⟨w, K, mg⟩ 1 F_Course_last_path) :=
  def_ok (k := 1) (n := 1) (N := N_Course_last_path) (m := m_Course_last_path) (O' := []) e.w_Course_last_path sc_Course_last_path rfl fun cdv A outer s H E c =>
    (css_cons (O1 := [false, false, false, false, false])
    (cs_par3 1 2 3 (os := [false, false, false]) rfl sc_Course_last_path.nd (cao_val (ce_op op_sub p_sub (cv_of (ce_len e.z_len (cv_of (ce_fld e.cm_Course e.na_Course_plan (ce_var 0))))) (cv_of ce_int)) (cao_val ce_int (cao_val (ce_tup ca_nil) cao_nil))))
    (css_cons (O1 := [false, false, false, false, false])
    (cs_set 4 sc_Course_last_path.nd (ce_ix ix_seq p_ix (cv_of (ce_ix ix_seq p_ix (cv_of (ce_ix ix_seq p_ix (cv_of (ce_ix ix_seq p_ix (cv_of (ce_fld e.cm_Course e.na_Course_legs (ce_var 0))) (cv_of (ce_var 1)) (fun _ _ => rfl))) (cv_of (ce_var 2)) (fun _ _ => rfl))) (cv_of ce_int) (fun _ _ => rfl))) (cv_of (ce_un un_neg p_neg (cv_of ce_int))) (fun _ _ => rfl)))
    (css_cons (O1 := [false, false, false, false, false])
    (cs_while c.ps (ct_cmp op_notN p_isnot (cv_of (ce_ix ix_seq p_ix (cv_of (ce_var 4)) (cv_of ce_int) (fun _ _ => rfl))) (cv_of ce_non) (nomark _)) (css_cons (O1 := [false, false, false, false, false])
    (cs_set 3 sc_Course_last_path.nd (ce_op op_addR p_add (cv_of (ce_var 3)) (cv_of (ce_tup (ca_cons (ce_op op_addR p_add (cv_of (ce_ix ix_seq p_ix (cv_of (ce_var 4)) (cv_of ce_int) (fun _ _ => rfl))) (cv_of ce_int)) ca_nil)))))
    (css_cons (O1 := [false, false, false, false, false])
    (cs_par2 1 2 (os := [false, false]) rfl sc_Course_last_path.nd (cao_val (ce_meth e.cm_Course e.mt_Course_inner ((ok_Course_inner e).mono (by decide)) c.hr c.hs e.b_Course_inner c.tk (ce_var 0) (ca_cons (ce_var 1) (ca_cons (ce_var 4) ca_nil))) (cao_val (ce_ix ix_seq p_ix (cv_of (ce_var 4)) (cv_of ce_int) (fun _ _ => rfl)) cao_nil)))
    (css_one (cs_set 4 sc_Course_last_path.nd (ce_ix ix_seq p_ix (cv_of (ce_ix ix_seq p_ix (cv_of (ce_ix ix_seq p_ix (cv_of (ce_ix ix_seq p_ix (cv_of (ce_fld e.cm_Course e.na_Course_legs (ce_var 0))) (cv_of (ce_var 1)) (fun _ _ => rfl))) (cv_of (ce_var 2)) (fun _ _ => rfl))) (cv_of ce_int) (fun _ _ => rfl))) (cv_of (ce_un un_neg p_neg (cv_of ce_int))) (fun _ _ => rfl)))))))
    (css_one (cs_ret (ce_var 3))))))
theorem ok_Course_leg_behind (e : At K mg) : FnG P w K mg base 3 e.f_Course_leg_behind e.d_Course_leg_behind ["self", "entry", "state", "steps"] (spOf ⟨w, K, mg⟩ 4 F_Course_leg_behind) :=
  def_ok (k := 2) (n := 4) (N := N_Course_leg_behind) (m := m_Course_leg_behind) (O' := [false, false, false, false, false, false, false, false, false, false, false]) e.w_Course_leg_behind sc_Course_leg_behind rfl fun cdv A outer s H E c =>
    (css_cons (O1 := [false, false, false, false, false, false, false, false, false, false, false])
    (cs_asg (cf_of (ce_ix ix_seq p_ix (cv_of (ce_ix ix_seq p_ix (cv_of (ce_fld e.cm_Course e.na_Course_legs (ce_var 0))) (cv_of (ce_var 1)) (fun _ _ => rfl))) (cv_of (ce_var 2)) (fun _ _ => rfl))) (cg_tup rfl (cgs_cons (cg_name 4 sc_Course_leg_behind.nd) (cgs_cons (cg_name 5 sc_Course_leg_behind.nd) (cgs_cons (cg_name 6 sc_Course_leg_behind.nd) cgs_nil)))))
    (css_cons (O1 := [false, false, false, false, false, false, false, false, false, false, false])
    (cs_set 7 sc_Course_leg_behind.nd ce_int)
    (css_one (cs_while c.ps (ct_truth (cv_of ce_bl)) (css_cons (O1 := [false, false, false, false, false, false, false, false, false, false, false])
    (cs_if (O' := [false, false, false, false, false, false, false, false, false, false, false]) (ct_cmp (op_eqR c.hr) p_eq (cv_of (ce_var 7)) (cv_of (ce_len e.z_len (cv_of (ce_var 4)))) (nomark _)) (css_cons (O1 := [false, false, false, false, false, false, false, false, false, false, false])
    (cs_set 8 sc_Course_leg_behind.nd (ce_sum rfl e.z_sum (cv_of (ce_of_cn (cn_lc rfl sc_Course_leg_behind.nd (own := [("leg", 10)]) (cis_any (cv_of (ce_slice (cv_of (ce_var 4)) (co_some (ce_var 6)) co_none))) (blkOk_by (N := N_Course_leg_behind) (sc := (defScope s_Course_leg_behind)) (by decide +kernel)) (fun _ _ _ _ _ => (cg_name 10 sc_Course_leg_behind.nd)) (fun _ _ _ _ _ => cts_nil) (fun _ _ _ _ _ => (ce_meth e.cm_Course e.mt_Course_leg_steps ((ok_Course_leg_steps e).mono (by decide)) c.hr c.hs e.b_Course_leg_steps lets_no (ce_var 0) (ca_cons (ce_var 1) (ca_cons (ce_var 10) ca_nil)))))))))
    (css_one (cs_par2 3 7 (os := [false, false]) rfl sc_Course_leg_behind.nd (cao_val (ce_op op_mod p_mod (cv_of (ce_var 3)) (cv_of (ce_var 8))) (cao_val (ce_var 6) cao_nil))))) css_nil)
    (css_cons (O1 := [false, false, false, false, false, false, false, false, false, false, false])
    (cs_set 9 sc_Course_leg_behind.nd (ce_meth e.cm_Course e.mt_Course_leg_steps ((ok_Course_leg_steps e).mono (by decide)) c.hr c.hs e.b_Course_leg_steps c.tk (ce_var 0) (ca_cons (ce_var 1) (ca_cons (ce_ix ix_seq p_ix (cv_of (ce_var 4)) (cv_of (ce_var 7)) (fun _ _ => rfl)) ca_nil))))
    (css_cons (O1 := [false, false, false, false, false, false, false, false, false, false, false])
    (cs_if (O' := [false, false, false, false, false, false, false, false, false, false, false]) (ct_w (cw_or (ct_cmp (op_eqR c.hr) p_eq (cv_of (ce_var 3)) (cv_of ce_int) (nomark _)) (cw_or (ct_cmp op_isN p_is (cv_of (ce_var 9)) (cv_of ce_non) (nomark _)) (cw_or1 (ct_cmp (op_ltD c.hr) p_ltD (cv_of (ce_var 3)) (cv_of (ce_var 9)) (nomark _)))))) (css_one (cs_ret (ce_tup (ca_cons (ce_ix ix_seq p_ix (cv_of (ce_var 4)) (cv_of (ce_var 7)) (fun _ _ => rfl)) (ca_cons (ce_var 3) ca_nil))))) css_nil)
    (css_cons (O1 := [false, false, false, false, false, false, false, false, false, false, false])
    (cs_if (O' := [false, false, false, false, false, false, false, false, false, false, false]) (ct_w (cw_and (ct_cmp (op_eqR c.hr) p_eq (cv_of (ce_var 7)) (cv_of (ce_op op_sub p_sub (cv_of (ce_len e.z_len (cv_of (ce_var 4)))) (cv_of ce_int))) (nomark _)) (cw_and1 (ct_cmp op_isN p_is (cv_of (ce_var 6)) (cv_of ce_non) (nomark _))))) (css_one (cs_ret (ce_if (ct_cmp op_notN p_isnot (cv_of (ce_ix ix_seq p_ix (cv_of (ce_ix ix_seq p_ix (cv_of (ce_var 4)) (cv_of (ce_var 7)) (fun _ _ => rfl))) (cv_of ce_int) (fun _ _ => rfl))) (cv_of ce_non) (nomark _)) (ce_tup (ca_cons (ce_ix ix_seq p_ix (cv_of (ce_var 4)) (cv_of (ce_var 7)) (fun _ _ => rfl)) (ca_cons (ce_var 3) ca_nil))) ce_non))) css_nil)
    (css_cons (O1 := [false, false, false, false, false, false, false, false, false, false, false])
    (cs_aug 3 rfl p_sub (ps_aug (i := 3) sc_Course_leg_behind.nd rfl (by first | exact Or.inl rfl | exact Or.inr rfl) (ce_var 9) ip_subR))
    (css_one (cs_aug 7 rfl p_iadd (ps_aug (i := 7) sc_Course_leg_behind.nd rfl (by first | exact Or.inl rfl | exact Or.inr rfl) ce_int ip_addR))))))))))))
theorem ok_Course_stand_behind (e : At K mg) : FnG P w K mg base 4 e.f_Course_stand_behind e.d_Course_stand_behind ["self", "steps"] (spOf ⟨w, K, mg⟩ 2 F_Course_stand_behind) :=
  def_ok (k := 3) (n := 2) (N := N_Course_stand_behind) (m := m_Course_stand_behind) (O' := []) e.w_Course_stand_behind sc_Course_stand_behind rfl fun cdv A outer s H E c =>
    (css_cons (O1 := [false, false, false, false, false, false, false, false])
    (cs_par3 2 3 4 (os := [false, false, false]) rfl sc_Course_stand_behind.nd (cao_val (ce_op op_sub p_sub (cv_of (ce_len e.z_len (cv_of (ce_fld e.cm_Course e.na_Course_plan (ce_var 0))))) (cv_of ce_int)) (cao_val ce_int (cao_val (ce_tup ca_nil) cao_nil))))
    (css_cons (O1 := [false, false, false, false, false, false, false, false])
    (cs_set 5 sc_Course_stand_behind.nd (ce_meth e.cm_Course e.mt_Course_leg_behind ((ok_Course_leg_behind e).mono (by decide)) c.hr c.hs e.b_Course_leg_behind c.tk (ce_var 0) (ca_cons (ce_var 2) (ca_cons (ce_var 3) (ca_cons (ce_var 1) ca_nil)))))
    (css_cons (O1 := [false, false, false, false, false, false, false, false])
    (cs_while c.ps (ct_cmp op_notN p_isnot (cv_of (ce_var 5)) (cv_of ce_non) (nomark _)) (css_cons (O1 := [false, false, false, false, false, false, false, false])
    (cs_asg (cf_of (ce_var 5)) (cg_tup rfl (cgs_cons (cg_name 6 sc_Course_stand_behind.nd) (cgs_cons (cg_name 7 sc_Course_stand_behind.nd) cgs_nil))))
    (css_cons (O1 := [false, false, false, false, false, false, false, false])
    (cs_if (O' := [false, false, false, false, false, false, false, false]) (ct_cmp (op_eqR c.hr) p_eq (cv_of (ce_var 7)) (cv_of ce_int) (nomark _)) (css_one (cs_ret (ce_tup (ca_cons (ce_var 4) (ca_cons (ce_ix ix_seq p_ix (cv_of (ce_var 6)) (cv_of ce_int) (fun _ _ => rfl)) (ca_cons (ce_ix ix_seq p_ix (cv_of (ce_var 6)) (cv_of ce_int) (fun _ _ => rfl)) ca_nil)))))) css_nil)
    (css_cons (O1 := [false, false, false, false, false, false, false, false])
    (cs_set 4 sc_Course_stand_behind.nd (ce_op op_addR p_add (cv_of (ce_var 4)) (cv_of (ce_tup (ca_cons (ce_op op_addR p_add (cv_of (ce_ix ix_seq p_ix (cv_of (ce_var 6)) (cv_of ce_int) (fun _ _ => rfl))) (cv_of ce_int)) ca_nil)))))
    (css_cons (O1 := [false, false, false, false, false, false, false, false])
    (cs_par2 2 3 (os := [false, false]) rfl sc_Course_stand_behind.nd (cao_val (ce_meth e.cm_Course e.mt_Course_inner ((ok_Course_inner e).mono (by decide)) c.hr c.hs e.b_Course_inner c.tk (ce_var 0) (ca_cons (ce_var 2) (ca_cons (ce_var 6) ca_nil))) (cao_val (ce_ix ix_seq p_ix (cv_of (ce_var 6)) (cv_of ce_int) (fun _ _ => rfl)) cao_nil)))
    (css_one (cs_set 5 sc_Course_stand_behind.nd (ce_meth e.cm_Course e.mt_Course_leg_behind ((ok_Course_leg_behind e).mono (by decide)) c.hr c.hs e.b_Course_leg_behind c.tk (ce_var 0) (ca_cons (ce_var 2) (ca_cons (ce_var 3) (ca_cons (ce_op op_sub p_sub (cv_of (ce_var 7)) (cv_of ce_int)) ca_nil)))))))))))
    (css_one (cs_ret ce_non)))))
theorem ok_Course_stands_with (e : At K mg) : FnG P w K mg base 2 e.f_Course_stands_with e.d_Course_stands_with ["self", "sign"] (spOf ⟨w, K, mg⟩ 2 F_Course_stands_with) :=
  def_ok (k := 1) (n := 2) (N := N_Course_stands_with) (m := m_Course_stands_with) (O' := []) e.w_Course_stands_with sc_Course_stands_with rfl fun cdv A outer s H E c =>
    (css_cons (O1 := [false, false, true, false, false, false, false, false, false, false, false])
    (cs_own 2 sc_Course_stands_with.nd (cn_lst ca_nil))
    (css_cons (O1 := [false, false, true, false, false, false, false, false, false, false, false])
    (cs_for (O1 := [false, false, true, false, false, false, false, false, false, false, false]) c.ps rfl (ci_range1 rfl e.z_range (ca_cons (ce_len e.z_len (cv_of (ce_fld e.cm_Course e.na_Course_plan (ce_var 0)))) ca_nil)) (cg_name 3 sc_Course_stands_with.nd)
    (css_cons (O1 := [false, false, true, false, true, false, false, false, false, false, false])
    (cs_own 4 sc_Course_stands_with.nd (cn_lst ca_nil))
    (css_cons (O1 := [false, false, true, false, true, false, false, false, false, false, false])
    (cs_for (O1 := [false, false, true, false, true, false, false, false, false, false, false]) c.ps rfl (ci_any (ce_ix ix_seq p_ix (cv_of (ce_fld e.cm_Course e.na_Course_legs (ce_var 0))) (cv_of (ce_var 3)) (fun _ _ => rfl))) (cg_tup rfl (cgs_cons (cg_name 5 sc_Course_stands_with.nd) (cgs_cons (cg_name 6 sc_Course_stands_with.nd) (cgs_cons (cg_name 7 sc_Course_stands_with.nd) cgs_nil))))
    (css_cons (O1 := [false, false, true, false, true, false, false, false, false, false, false])
    (cs_set 8 sc_Course_stands_with.nd (ce_op op_mulR p_mul (cv_of (ce_len e.z_len (cv_of (ce_var 5)))) (cv_of (ce_toint e.z_int (cv_of (ce_cmp (op_eqR c.hr) p_eq (cv_of (ce_ix ix_seq p_ix (cv_of (ce_ix ix_seq p_ix (cv_of (ce_fld e.cm_Course e.na_Course_plan (ce_var 0))) (cv_of (ce_var 3)) (fun _ _ => rfl))) (cv_of ce_int) (fun _ _ => rfl))) (cv_of (ce_var 1)) (nomark _)))))))
    (css_cons (O1 := [false, false, true, false, true, false, false, false, false, false, false])
    (cs_lcSet 9 rfl sc_Course_stands_with.nd (sw_true rfl rfl rfl (by decide +kernel)) (own := [("leg", 10)]) (cis_any (cv_of (ce_var 5))) (blkOk_by (N := N_Course_stands_with) (sc := (defScope s_Course_stands_with)) (by decide +kernel)) (fun _ _ _ _ _ => (cg_name 10 sc_Course_stands_with.nd)) (fun _ _ _ _ _ => (cts_one (ct_cmp op_notN p_isnot (cv_of (ce_ix ix_seq p_ix (cv_of (ce_var 10)) (cv_of ce_int) (fun _ _ => rfl))) (cv_of ce_non) (nomark _)))) (fun _ _ _ _ _ => (ce_ix ix_seq p_ix (cv_of (ce_ix ix_seq p_ix (cv_own 2) (cv_of (ce_meth e.cm_Course e.mt_Course_inner ((ok_Course_inner e).mono (by decide)) c.hr c.hs e.b_Course_inner lets_no (ce_var 0) (ca_cons (ce_var 3) (ca_cons (ce_var 10) ca_nil)))) (fun _ _ => rfl))) (cv_of (ce_ix ix_seq p_ix (cv_of (ce_var 10)) (cv_of ce_int) (fun _ _ => rfl))) (fun _ _ => rfl))))
    (css_one (cs_app 4 rfl (ps_expr (pe_bm F.plainAttrs_list F.slot_list_append F.type_list_append mt_append (pv 4) (pa_cons (ce_if (ct_cmp (op_eqR c.hr) p_eq (cv_of (ce_ix ix_seq p_ix (cv_of (ce_var 6)) (cv_of ce_int) (fun _ _ => rfl))) (cv_of (ce_glob (v := .str "ever") rfl e.c_EVER ⟨_, rfl⟩ (fun _ _ => .str _))) (nomark _)) ce_non (ce_op op_addR p_add (cv_of (ce_var 8)) (cv_of (ce_sum rfl e.z_sum (cv_of (ce_var 9)))))) pa_nil))))))))
    (css_let [false, false, true, false, false, false, false, false, false, false, false] (css_one (cs_app 2 rfl (ps_expr (pe_bm F.plainAttrs_list F.slot_list_append F.type_list_append mt_append (pv 2) (pa_cons (ce_var 4) pa_nil)))))))))
    (css_let [false, false, false, false, false, false, false, false, false, false, false] (css_one (cs_ret (ce_var 2))))))
theorem ok_plan_walk (e : At K mg) : FnG P w K mg base 6 e.f_plan_walk e.d_plan_walk ["plan", "robot"] (spOf ⟨w, K, mg⟩ 2 F_plan_walk) :=
  def_ok (k := 5) (n := 2) (N := N_plan_walk) (m := m_plan_walk) (O' := []) e.w_plan_walk sc_plan_walk rfl fun cdv A outer s H E c =>
    (css_cons (O1 := [false, false, false, false, false])
    (cs_set 2 sc_plan_walk.nd (ce_make e.cm_Course.nm e.mk_Course ((ok_Course___init__ e).mono (by decide)) c.hr c.hs rfl e.b_Course___init__ c.tk (ca_cons (ce_var 0) (ca_cons (ce_var 1) ca_nil))))
    (css_cons (O1 := [false, false, false, false, false])
    (cs_set 3 sc_plan_walk.nd (ce_ix ix_seq p_ix (cv_of (ce_ix ix_seq p_ix (cv_of (ce_fld e.cm_Course e.na_Course_results (ce_var 2))) (cv_of (ce_un un_neg p_neg (cv_of ce_int))) (fun _ _ => rfl))) (cv_of ce_int) (fun _ _ => rfl)))
    (css_cons (O1 := [false, false, false, false, false])
    (cs_if (O' := [false, false, false, false, false]) (ct_cmp (op_eqR c.hr) p_eq (cv_of (ce_ix ix_seq p_ix (cv_of (ce_var 3)) (cv_of ce_int) (fun _ _ => rfl))) (cv_of (ce_glob (v := .str "ever") rfl e.c_EVER ⟨_, rfl⟩ (fun _ _ => .str _))) (nomark _)) (css_one (cs_ret (ce_tup (ca_cons (ce_glob (v := .str "ever") rfl e.c_EVER ⟨_, rfl⟩ (fun _ _ => .str _)) (ca_cons ce_non (ca_cons ce_non ca_nil)))))) css_nil)
    (css_cons (O1 := [false, false, false, false, false])
    (cs_set 4 sc_plan_walk.nd (ce_ix ix_seq p_ix (cv_of (ce_ix ix_seq p_ix (cv_of (ce_fld e.cm_Course e.na_Course_steps (ce_var 2))) (cv_of (ce_un un_neg p_neg (cv_of ce_int))) (fun _ _ => rfl))) (cv_of ce_int) (fun _ _ => rfl)))
    (css_one (cs_ret (ce_if (ct_cmp (op_eqR c.hr) p_eq (cv_of (ce_ix ix_seq p_ix (cv_of (ce_var 3)) (cv_of ce_int) (fun _ _ => rfl))) (cv_of (ce_glob (v := .str "out") rfl e.c_OUT ⟨_, rfl⟩ (fun _ _ => .str _))) (nomark _)) (ce_tup (ca_cons (ce_glob (v := .str "out") rfl e.c_OUT ⟨_, rfl⟩ (fun _ _ => .str _)) (ca_cons (ce_var 4) (ca_cons ce_non ca_nil)))) (ce_tup (ca_cons (ce_ix ix_seq p_ix (cv_of (ce_var 3)) (cv_of ce_int) (fun _ _ => rfl)) (ca_cons (ce_var 4) (ca_cons (ce_meth0 e.cm_Course e.mt_Course_last_path ((ok_Course_last_path e).mono (by decide)) c.hr c.hs e.b_Course_last_path c.tk (ce_var 2)) ca_nil)))))))))))
theorem ok_plan_stand (e : At K mg) : FnG P w K mg base 6 e.f_plan_stand e.d_plan_stand ["plan", "robot", "steps"] (spOf ⟨w, K, mg⟩ 3 F_plan_stand) :=
  def_ok (k := 5) (n := 3) (N := N_plan_stand) (m := m_plan_stand) (O' := []) e.w_plan_stand sc_plan_stand rfl fun cdv A outer s H E c =>
    (css_one (cs_ret (ce_meth e.cm_Course e.mt_Course_stand_behind ((ok_Course_stand_behind e).mono (by decide)) c.hr c.hs e.b_Course_stand_behind c.tk (ce_make e.cm_Course.nm e.mk_Course ((ok_Course___init__ e).mono (by decide)) c.hr c.hs rfl e.b_Course___init__ c.tk (ca_cons (ce_var 0) (ca_cons (ce_var 1) ca_nil))) (ca_cons (ce_var 2) ca_nil))))
theorem ok_plan_meets (e : At K mg) : FnG P w K mg base 6 e.f_plan_meets e.d_plan_meets ["plan", "robot", "sign"] (spOf ⟨w, K, mg⟩ 3 F_plan_meets) :=
  def_ok (k := 5) (n := 3) (N := N_plan_meets) (m := m_plan_meets) (O' := []) e.w_plan_meets sc_plan_meets rfl fun cdv A outer s H E c =>
    (css_one (cs_ret (ce_ix ix_seq p_ix (cv_of (ce_ix ix_seq p_ix (cv_of (ce_meth e.cm_Course e.mt_Course_stands_with ((ok_Course_stands_with e).mono (by decide)) c.hr c.hs e.b_Course_stands_with c.tk (ce_make e.cm_Course.nm e.mk_Course ((ok_Course___init__ e).mono (by decide)) c.hr c.hs rfl e.b_Course___init__ c.tk (ca_cons (ce_var 0) (ca_cons (ce_var 1) ca_nil))) (ca_cons (ce_var 2) ca_nil))) (cv_of (ce_un un_neg p_neg (cv_of ce_int))) (fun _ _ => rfl))) (cv_of ce_int) (fun _ _ => rfl))))
theorem ok__law_deck (e : At K mg) : FnG P w K mg base 1 e.f__law_deck e.d__law_deck ["_law_script"] (spOf ⟨w, K, mg⟩ 1 F__law_deck) :=
  def_ok (k := 0) (n := 1) (N := N__law_deck) (m := m__law_deck) (O' := []) e.w__law_deck sc__law_deck rfl fun cdv A outer s H E c =>
    (css_one (cs_ret (ce_obj (ca_cons (ce_new (cn_lc rfl sc__law_deck.nd (own := [("_law_cell", 1)]) (cis_any (cv_of (ce_slice (cv_of (ce_var 0)) co_none (co_some ce_int)))) (blkOk_by (N := N__law_deck) (sc := (defScope s__law_deck)) (by decide +kernel)) (fun _ _ _ _ _ => (cg_name 1 sc__law_deck.nd)) (fun _ _ _ _ _ => cts_nil) (fun _ _ _ _ _ => (ce_abs e.z_abs (cv_of (ce_var 1)))))) (ca_cons ce_int ca_nil)))))
theorem ok__law_draw (e : At K mg) : FnG P w K mg base 1 e.f__law_draw e.d__law_draw ["_law_deck_here", "_law_many"] (spOf ⟨w, K, mg⟩ 2 F__law_draw) :=
  def_ok (k := 0) (n := 2) (N := N__law_draw) (m := m__law_draw) (O' := []) e.w__law_draw sc__law_draw rfl fun cdv A outer s H E c =>
    (css_cons (O1 := [false, false, false, false, false])
    (cs_putO (ps_asg (ce_op op_addR p_add (cv_of (ce_ix ix_seq p_ix (cv_of (ce_var 0)) (cv_of ce_int) (fun _ _ => rfl))) (cv_of ce_int)) (pg_sub (ce_var 0) ce_int set_list)))
    (css_cons (O1 := [false, false, false, false, false])
    (cs_asg (cf_of (ce_tup (ca_cons ce_int (ca_cons (ce_un un_neg p_neg (cv_of ce_int)) ca_nil)))) (cg_tup rfl (cgs_cons (cg_name 2 sc__law_draw.nd) (cgs_cons (cg_name 3 sc__law_draw.nd) cgs_nil))))
    (css_cons (O1 := [false, false, false, false, false])
    (cs_if (O' := [false, false, false, false, false]) (ct_cmp op_gtR p_gt (cv_of (ce_len e.z_len (cv_of (ce_ix ix_seq p_ix (cv_of (ce_var 0)) (cv_of ce_int) (fun _ _ => rfl))))) (cv_of ce_int) (nomark _)) (css_cons (O1 := [false, false, false, false, false])
    (cs_set 3 sc__law_draw.nd (ce_op op_mod p_mod (cv_of (ce_toint e.z_int (cv_of (ce_ix ix_seq p_ix (cv_of (ce_var 0)) (cv_of ce_int) (fun _ _ => rfl))))) (cv_of (ce_len e.z_len (cv_of (ce_ix ix_seq p_ix (cv_of (ce_var 0)) (cv_of ce_int) (fun _ _ => rfl)))))))
    (css_one (cs_set 2 sc__law_draw.nd (ce_ix ix_seq p_ix (cv_of (ce_ix ix_seq p_ix (cv_of (ce_var 0)) (cv_of ce_int) (fun _ _ => rfl))) (cv_of (ce_var 3)) (fun _ _ => rfl))))) css_nil)
    (css_cons (O1 := [false, false, false, false, false])
    (cs_if (O' := [false, false, false, false, false]) (ct_cmp op_geR p_ge (cv_of (ce_var 2)) (cv_of (ce_op op_pow p_pow (cv_of ce_int) (cv_of ce_int))) (nomark _)) (css_cons (O1 := [false, false, false, false, false])
    (cs_putO (ps_asg (ce_op op_fdiv p_div (cv_of (ce_toint e.z_int (cv_of (ce_var 2)))) (cv_of (ce_var 1))) (pg_sub (ce_ix ix_seq p_ix (cv_of (ce_var 0)) (cv_of ce_int) (fun _ _ => rfl)) (ce_var 3) set_list)))
    (css_one (cs_ret (ce_op op_mod p_mod (cv_of (ce_toint e.z_int (cv_of (ce_var 2)))) (cv_of (ce_var 1)))))) css_nil)
    (css_cons (O1 := [false, false, false, false, false])
    (cs_set 4 sc__law_draw.nd (ce_op op_addR p_add (cv_of (ce_op op_addR p_add (cv_of (ce_op op_mod p_mod (cv_of (ce_toint e.z_int (cv_of (ce_var 2)))) (cv_of ce_int))) (cv_of (ce_op op_mulR p_mul (cv_of ce_int) (cv_of (ce_ix ix_seq p_ix (cv_of (ce_var 0)) (cv_of ce_int) (fun _ _ => rfl))))))) (cv_of ce_int)))
    (css_one (cs_ret (ce_op op_mod p_mod (cv_of (ce_toint e.z_int (cv_of (ce_op op_mod p_mod (cv_of (ce_toint e.z_int (cv_of (ce_op op_pow p_pow (cv_of (ce_var 4)) (cv_of ce_int))))) (cv_of ce_int))))) (cv_of (ce_var 1))))))))))
theorem ok__law_one (e : At K mg) : FnG P w K mg base 2 e.f__law_one e.d__law_one ["_law_deck_here", "_law_items"] (spOf ⟨w, K, mg⟩ 2 F__law_one) :=
  def_ok (k := 1) (n := 2) (N := N__law_one) (m := m__law_one) (O' := []) e.w__law_one sc__law_one rfl fun cdv A outer s H E c =>
    (css_one (cs_ret (ce_ix ix_seq p_ix (cv_of (ce_var 1)) (cv_of (ce_call ((ok__law_draw e).mono (by decide)) c.hr c.hs rfl e.g__law_draw e.w__law_draw.kp e.b__law_draw c.tk (ca_cons (ce_var 0) (ca_cons (ce_len e.z_len (cv_of (ce_var 1))) ca_nil)))) (fun _ _ => rfl))))
theorem ok__law_signs (e : At K mg) : FnG P w K mg base 3 e.f__law_signs e.d__law_signs ["_law_deck_here", "_law_many"] (spOf ⟨w, K, mg⟩ 2 F__law_signs) :=
  def_ok (k := 2) (n := 2) (N := N__law_signs) (m := m__law_signs) (O' := []) e.w__law_signs sc__law_signs rfl fun cdv A outer s H E c =>
    (css_cons (O1 := [false, false, false, false, false, false])
    (cs_set 2 sc__law_signs.nd ce_str)
    (css_cons (O1 := [false, false, false, false, false, false])
    (cs_set 3 sc__law_signs.nd (ce_join (cv_of ce_str) (cv_of (ce_of_cn (cn_lc rfl sc__law_signs.nd (own := [("_law_k", 5)]) (cis_of (ci_range1 rfl e.z_range (ca_cons (ce_call ((ok__law_draw e).mono (by decide)) c.hr c.hs rfl e.g__law_draw e.w__law_draw.kp e.b__law_draw c.tk (ca_cons (ce_var 0) (ca_cons ce_int ca_nil))) ca_nil))) (blkOk_by (N := N__law_signs) (sc := (defScope s__law_signs)) (by decide +kernel)) (fun _ _ _ _ _ => (cg_name 5 sc__law_signs.nd)) (fun _ _ _ _ _ => cts_nil) (fun _ _ _ _ _ => (ce_call ((ok__law_one e).mono (by decide)) c.hr c.hs rfl e.g__law_one e.w__law_one.kp e.b__law_one lets_no (ca_cons (ce_var 0) (ca_cons (ce_var 2) ca_nil)))))))))
    (css_cons (O1 := [false, false, false, false, false, false])
    (cs_set 4 sc__law_signs.nd (ce_join (cv_of ce_str) (cv_of (ce_of_cn (cn_lc rfl sc__law_signs.nd (own := [("_law_k", 5)]) (cis_of (ci_range1 rfl e.z_range (ca_cons (ce_call ((ok__law_draw e).mono (by decide)) c.hr c.hs rfl e.g__law_draw e.w__law_draw.kp e.b__law_draw c.tk (ca_cons (ce_var 0) (ca_cons ce_int ca_nil))) ca_nil))) (blkOk_by (N := N__law_signs) (sc := (defScope s__law_signs)) (by decide +kernel)) (fun _ _ _ _ _ => (cg_name 5 sc__law_signs.nd)) (fun _ _ _ _ _ => cts_nil) (fun _ _ _ _ _ => (ce_call ((ok__law_one e).mono (by decide)) c.hr c.hs rfl e.g__law_one e.w__law_one.kp e.b__law_one lets_no (ca_cons (ce_var 0) (ca_cons (ce_var 2) ca_nil)))))))))
    (css_one (cs_ret (ce_of_cn (cn_lc rfl sc__law_signs.nd (own := [("_law_k", 5)]) (cis_of (ci_range1 rfl e.z_range (ca_cons (ce_var 1) ca_nil))) (blkOk_by (N := N__law_signs) (sc := (defScope s__law_signs)) (by decide +kernel)) (fun _ _ _ _ _ => (cg_name 5 sc__law_signs.nd)) (fun _ _ _ _ _ => cts_nil) (fun _ _ _ _ _ => (ce_op op_addR p_add (cv_of (ce_op op_addR p_add (cv_of (ce_var 3)) (cv_of (ce_ix ix_seq p_ix (cv_of ce_str) (cv_of (ce_var 5)) (fun _ _ => rfl))))) (cv_of (ce_var 4)))))))))))
theorem ok__law_plan (e : At K mg) : FnG P w K mg base 3 e.f__law_plan e.d__law_plan ["_law_deck_here", "_law_signs_here", "_law_many"] (spOf ⟨w, K, mg⟩ 3 F__law_plan) :=
  def_ok (k := 2) (n := 3) (N := N__law_plan) (m := m__law_plan) (O' := []) e.w__law_plan sc__law_plan rfl fun cdv A outer s H E c =>
    (css_cons (O1 := [false, false, false, true, false, false, false])
    (cs_own 3 sc__law_plan.nd (cn_lst ca_nil))
    (css_cons (O1 := [false, false, false, true, false, false, false])
    (cs_for (O1 := [false, false, false, true, false, false, false]) c.ps rfl (ci_range1 rfl e.z_range (ca_cons (ce_var 2) ca_nil)) (cg_name 4 sc__law_plan.nd)
    (css_end [false, false, false, true, false, true, false] (O' := [false, false, false, true, false, false, false]) (css_cons (O1 := [false, false, false, true, false, true, false])
    (cs_own 5 sc__law_plan.nd (cn_lst ca_nil))
    (css_cons (O1 := [false, false, false, true, false, true, false])
    (cs_for (O1 := [false, false, false, true, false, true, false]) c.ps rfl (ci_range1 rfl e.z_range (ca_cons (ce_if (ct_cmp op_gtR p_gt (cv_of (ce_var 4)) (cv_of ce_int) (nomark _)) (ce_call ((ok__law_draw e).mono (by decide)) c.hr c.hs rfl e.g__law_draw e.w__law_draw.kp e.b__law_draw c.tk (ca_cons (ce_var 0) (ca_cons ce_int ca_nil))) ce_int) ca_nil)) (cg_name 6 sc__law_plan.nd)
    (css_one (cs_app 5 rfl (ps_expr (pe_bm F.plainAttrs_list F.slot_list_append F.type_list_append mt_append (pv 5) (pa_cons (ce_if (ct_cmp op_gtR p_gt (cv_of (ce_call ((ok__law_draw e).mono (by decide)) c.hr c.hs rfl e.g__law_draw e.w__law_draw.kp e.b__law_draw c.tk (ca_cons (ce_var 0) (ca_cons ce_int ca_nil)))) (cv_of ce_int) (nomark _)) (ce_op op_sub p_sub (cv_of (ce_var 4)) (cv_of ce_int)) (ce_call ((ok__law_draw e).mono (by decide)) c.hr c.hs rfl e.g__law_draw e.w__law_draw.kp e.b__law_draw c.tk (ca_cons (ce_var 0) (ca_cons (ce_var 4) ca_nil)))) pa_nil))))))
    (css_one (cs_app 3 rfl (ps_expr (pe_bm F.plainAttrs_list F.slot_list_append F.type_list_append mt_append (pv 3) (pa_cons (ce_tup (ca_cons (ce_call ((ok__law_one e).mono (by decide)) c.hr c.hs rfl e.g__law_one e.w__law_one.kp e.b__law_one c.tk (ca_cons (ce_var 0) (ca_cons (ce_var 1) ca_nil))) (ca_cons (ce_totup e.z_tuple (cv_own 5)) ca_nil))) pa_nil)))))))))
    (css_one (cs_ret (ce_totup e.z_tuple (cv_own 3))))))
theorem ok__law_robot (e : At K mg) : FnG P w K mg base 3 e.f__law_robot e.d__law_robot ["_law_deck_here", "_law_signs_here", "_law_words", "_law_most"] (spOf ⟨w, K, mg⟩ 4 F__law_robot) :=
  def_ok (k := 2) (n := 4) (N := N__law_robot) (m := m__law_robot) (O' := []) e.w__law_robot sc__law_robot rfl fun cdv A outer s H E c =>
    (css_cons (O1 := [false, false, false, false, false, true, false, false, false, false, false])
    (cs_par2 4 5 (os := [false, true]) rfl sc__law_robot.nd (cao_val (ce_op op_addR p_add (cv_of ce_int) (cv_of (ce_call ((ok__law_draw e).mono (by decide)) c.hr c.hs rfl e.g__law_draw e.w__law_draw.kp e.b__law_draw c.tk (ca_cons (ce_var 0) (ca_cons (ce_var 3) ca_nil))))) (cao_own (cn_lst ca_nil) cao_nil)))
    (css_cons (O1 := [false, false, false, false, false, true, false, false, false, false, false])
    (cs_for (O1 := [false, false, false, false, false, true, false, false, false, false, false]) c.ps rfl (ci_range1 rfl e.z_range (ca_cons (ce_var 4) ca_nil)) (cg_name 6 sc__law_robot.nd)
    (css_end [false, false, false, false, false, true, false, true, false, false, false] (O' := [false, false, false, false, false, true, false, false, false, false, false]) (css_cons (O1 := [false, false, false, false, false, true, false, true, false, false, false])
    (cs_own 7 sc__law_robot.nd (cn_lst ca_nil))
    (css_cons (O1 := [false, false, false, false, false, true, false, true, false, false, false])
    (cs_for (O1 := [false, false, false, false, false, true, false, true, false, false, false]) c.ps rfl (ci_range1 rfl e.z_range (ca_cons (ce_call ((ok__law_draw e).mono (by decide)) c.hr c.hs rfl e.g__law_draw e.w__law_draw.kp e.b__law_draw c.tk (ca_cons (ce_var 0) (ca_cons ce_int ca_nil))) ca_nil)) (cg_name 8 sc__law_robot.nd)
    (css_cons (O1 := [false, false, false, false, false, true, false, true, false, false, false])
    (cs_set 9 sc__law_robot.nd (ce_tup (ca_cons ce_str (ca_cons (ce_call ((ok__law_draw e).mono (by decide)) c.hr c.hs rfl e.g__law_draw e.w__law_draw.kp e.b__law_draw c.tk (ca_cons (ce_var 0) (ca_cons ce_int ca_nil))) (ca_cons (ce_call ((ok__law_draw e).mono (by decide)) c.hr c.hs rfl e.g__law_draw e.w__law_draw.kp e.b__law_draw c.tk (ca_cons (ce_var 0) (ca_cons (ce_var 4) ca_nil))) ca_nil)))))
    (css_cons (O1 := [false, false, false, false, false, true, false, true, false, false, false])
    (cs_if (O' := [false, false, false, false, false, true, false, true, false, false, false]) (ct_cmp (op_eqR c.hr) p_eq (cv_of (ce_call ((ok__law_draw e).mono (by decide)) c.hr c.hs rfl e.g__law_draw e.w__law_draw.kp e.b__law_draw c.tk (ca_cons (ce_var 0) (ca_cons ce_int ca_nil)))) (cv_of ce_int) (nomark _)) (css_one (cs_set 9 sc__law_robot.nd (ce_tup (ca_cons ce_str (ca_cons (ce_call ((ok__law_one e).mono (by decide)) c.hr c.hs rfl e.g__law_one e.w__law_one.kp e.b__law_one c.tk (ca_cons (ce_var 0) (ca_cons (ce_var 2) ca_nil))) ca_nil))))) css_nil)
    (css_cons (O1 := [false, false, false, false, false, true, false, true, false, false, false])
    (cs_set 10 sc__law_robot.nd (ce_if (ct_cmp (op_eqR c.hr) p_eq (cv_of (ce_call ((ok__law_draw e).mono (by decide)) c.hr c.hs rfl e.g__law_draw e.w__law_draw.kp e.b__law_draw c.tk (ca_cons (ce_var 0) (ca_cons ce_int ca_nil)))) (cv_of ce_int) (nomark _)) ce_non (ce_call ((ok__law_one e).mono (by decide)) c.hr c.hs rfl e.g__law_one e.w__law_one.kp e.b__law_one c.tk (ca_cons (ce_var 0) (ca_cons (ce_var 1) ca_nil)))))
    (css_one (cs_app 7 rfl (ps_expr (pe_bm F.plainAttrs_list F.slot_list_append F.type_list_append mt_append (pv 7) (pa_cons (ce_tup (ca_cons (ce_var 10) (ca_cons (ce_call ((ok__law_one e).mono (by decide)) c.hr c.hs rfl e.g__law_one e.w__law_one.kp e.b__law_one c.tk (ca_cons (ce_var 0) (ca_cons (ce_lst (ca_cons ce_non (ca_cons ce_non (ca_cons ce_int (ca_cons ce_int (ca_cons ce_int ca_nil)))))) ca_nil))) (ca_cons (ce_var 9) ca_nil)))) pa_nil)))))))))
    (css_cons (O1 := [false, false, false, false, false, true, false, true, false, false, false])
    (cs_if (O' := [false, false, false, false, false, true, false, true, false, false, false]) (ct_cmp op_gtR p_gt (cv_of (ce_call ((ok__law_draw e).mono (by decide)) c.hr c.hs rfl e.g__law_draw e.w__law_draw.kp e.b__law_draw c.tk (ca_cons (ce_var 0) (ca_cons ce_int ca_nil)))) (cv_of ce_int) (nomark _)) (css_one (cs_app 7 rfl (ps_expr (pe_bm F.plainAttrs_list F.slot_list_append F.type_list_append mt_append (pv 7) (pa_cons (ce_tup (ca_cons ce_non (ca_cons ce_non (ca_cons (ce_tup (ca_cons ce_str (ca_cons (ce_op op_addR p_add (cv_of ce_int) (cv_of (ce_call ((ok__law_draw e).mono (by decide)) c.hr c.hs rfl e.g__law_draw e.w__law_draw.kp e.b__law_draw c.tk (ca_cons (ce_var 0) (ca_cons ce_int ca_nil))))) (ca_cons (ce_call ((ok__law_draw e).mono (by decide)) c.hr c.hs rfl e.g__law_draw e.w__law_draw.kp e.b__law_draw c.tk (ca_cons (ce_var 0) (ca_cons (ce_var 4) ca_nil))) ca_nil)))) ca_nil)))) pa_nil))))) css_nil)
    (css_one (cs_app 5 rfl (ps_expr (pe_bm F.plainAttrs_list F.slot_list_append F.type_list_append mt_append (pv 5) (pa_cons (ce_totup e.z_tuple (cv_own 7)) pa_nil))))))))))
    (css_one (cs_ret (ce_totup e.z_tuple (cv_own 5))))))
theorem ok__law_next (e : At K mg) : FnG P w K mg base 1 e.f__law_next e.d__law_next ["_law_plan_here", "_law_robot_here", "_law_stand"] (spOf ⟨w, K, mg⟩ 3 F__law_next) :=
  def_ok (k := 0) (n := 3) (N := N__law_next) (m := m__law_next) (O' := []) e.w__law_next sc__law_next rfl fun cdv A outer s H E c =>
    (css_cons (O1 := [false, false, false, false, false, false, false, false, false, false, false, false, false])
    (cs_asg (cf_of (ce_var 2)) (cg_tup rfl (cgs_cons (cg_name 3 sc__law_next.nd) (cgs_cons (cg_name 4 sc__law_next.nd) (cgs_cons (cg_name 5 sc__law_next.nd) cgs_nil)))))
    (css_cons (O1 := [false, false, false, false, false, false, false, false, false, false, false, false, false])
    (cs_set 6 sc__law_next.nd (ce_ix ix_seq p_ix (cv_of (ce_var 0)) (cv_of (ce_un un_neg p_neg (cv_of ce_int))) (fun _ _ => rfl)))
    (css_cons (O1 := [false, false, false, false, false, false, false, false, false, false, false, false, false])
    (cs_for (O1 := [false, false, false, false, false, false, false, false, false, false, false, false, false]) c.ps rfl (ci_any (ce_var 3)) (cg_name 7 sc__law_next.nd)
    (css_one (cs_set 6 sc__law_next.nd (ce_ix ix_seq p_ix (cv_of (ce_var 0)) (cv_of (ce_ix ix_seq p_ix (cv_of (ce_ix ix_seq p_ix (cv_of (ce_var 6)) (cv_of ce_int) (fun _ _ => rfl))) (cv_of (ce_op op_sub p_sub (cv_of (ce_var 7)) (cv_of ce_int))) (fun _ _ => rfl))) (fun _ _ => rfl)))))
    (css_cons (O1 := [false, false, false, false, false, false, false, false, false, false, false, false, false])
    (cs_set 8 sc__law_next.nd (ce_op op_addR p_add (cv_of ce_int) (cv_of (ce_len e.z_len (cv_of (ce_ix ix_seq p_ix (cv_of (ce_var 6)) (cv_of ce_int) (fun _ _ => rfl)))))))
    (css_cons (O1 := [false, false, false, false, false, false, false, false, false, false, false, false, false])
    (cs_lcSet 9 rfl sc__law_next.nd (sw_true rfl rfl rfl (by decide +kernel)) (own := [("_law_rule", 12)]) (cis_any (cv_of (ce_ix ix_seq p_ix (cv_of (ce_var 1)) (cv_of (ce_var 5)) (fun _ _ => rfl)))) (blkOk_by (N := N__law_next) (sc := (defScope s__law_next)) (by decide +kernel)) (fun _ _ _ _ _ => (cg_name 12 sc__law_next.nd)) (fun _ _ _ _ _ => (cts_one (ct_w (cw_and (ct_cmp (op_inR c.hr) p_in (cv_of (ce_ix ix_seq p_ix (cv_of (ce_var 12)) (cv_of ce_int) (fun _ _ => rfl))) (cv_of (ce_lst (ca_cons ce_non (ca_cons (ce_ix ix_seq p_ix (cv_of (ce_var 6)) (cv_of ce_int) (fun _ _ => rfl)) ca_nil)))) rfl) (cw_and1 (ct_cmp (op_inR c.hr) p_in (cv_of (ce_ix ix_seq p_ix (cv_of (ce_var 12)) (cv_of ce_int) (fun _ _ => rfl))) (cv_of (ce_lst (ca_cons ce_non (ca_cons (ce_var 8) ca_nil)))) rfl)))))) (fun _ _ _ _ _ => (ce_ix ix_seq p_ix (cv_of (ce_var 12)) (cv_of ce_int) (fun _ _ => rfl))))
    (css_cons (O1 := [false, false, false, false, false, false, false, false, false, false, false, false, false])
    (cs_set 10 sc__law_next.nd (ce_if (ct_cmp (op_neR c.hr) p_eq (cv_of (ce_var 9)) (cv_of (ce_lst ca_nil)) (nomark _)) (ce_ix ix_seq p_ix (cv_of (ce_var 9)) (cv_of ce_int) (fun _ _ => rfl)) (ce_tup (ca_cons ce_str (ca_cons ce_str ca_nil)))))
    (css_cons (O1 := [false, false, false, false, false, false, false, false, false, false, false, false, false])
    (cs_if (O' := [false, false, false, false, false, false, false, false, false, false, false, false, false]) (ct_cmp (op_eqR c.hr) p_eq (cv_of (ce_ix ix_seq p_ix (cv_of (ce_var 10)) (cv_of ce_int) (fun _ _ => rfl))) (cv_of ce_str) (nomark _)) (css_one (cs_ret (ce_var 10))) css_nil)
    (css_cons (O1 := [false, false, false, false, false, false, false, false, false, false, false, false, false])
    (cs_set 11 sc__law_next.nd (ce_op op_mod p_mod (cv_of (ce_toint e.z_int (cv_of (ce_op op_addR p_add (cv_of (ce_var 4)) (cv_of (ce_ix ix_seq p_ix (cv_of (ce_var 10)) (cv_of ce_int) (fun _ _ => rfl))))))) (cv_of (ce_var 8))))
    (css_cons (O1 := [false, false, false, false, false, false, false, false, false, false, false, false, false])
    (cs_if (O' := [false, false, false, false, false, false, false, false, false, false, false, false, false]) (ct_cmp op_gtR p_gt (cv_of (ce_var 11)) (cv_of ce_int) (nomark _)) (css_one (cs_ret (ce_tup (ca_cons (ce_op op_addR p_add (cv_of (ce_var 3)) (cv_of (ce_tup (ca_cons (ce_var 11) ca_nil)))) (ca_cons ce_int (ca_cons (ce_ix ix_seq p_ix (cv_of (ce_var 10)) (cv_of ce_int) (fun _ _ => rfl)) ca_nil)))))) css_nil)
    (css_one (cs_ret (ce_if (ct_cmp (op_eqR c.hr) p_eq (cv_of (ce_var 3)) (cv_of (ce_tup ca_nil)) (nomark _)) (ce_tup (ca_cons ce_str (ca_cons ce_non ca_nil))) (ce_tup (ca_cons (ce_slice (cv_of (ce_var 3)) co_none (co_some (ce_un un_neg p_neg (cv_of ce_int)))) (ca_cons (ce_ix ix_seq p_ix (cv_of (ce_var 3)) (cv_of (ce_un un_neg p_neg (cv_of ce_int))) (fun _ _ => rfl)) (ca_cons (ce_ix ix_seq p_ix (cv_of (ce_var 10)) (cv_of ce_int) (fun _ _ => rfl)) ca_nil))))))))))))))))
theorem ok__law_far (e : At K mg) : FnG P w K mg base 2 e.f__law_far e.d__law_far ["_law_deck_here", "_law_bound"] (spOf ⟨w, K, mg⟩ 2 F__law_far) :=
  def_ok (k := 1) (n := 2) (N := N__law_far) (m := m__law_far) (O' := []) e.w__law_far sc__law_far rfl fun cdv A outer s H E c =>
    (css_cons (O1 := [false, false, false, false])
    (cs_set 2 sc__law_far.nd ce_int)
    (css_cons (O1 := [false, false, false, false])
    (cs_for (O1 := [false, false, false, false]) c.ps rfl (ci_range1 rfl e.z_range (ca_cons ce_int ca_nil)) (cg_name 3 sc__law_far.nd)
    (css_one (cs_set 2 sc__law_far.nd (ce_op op_addR p_add (cv_of (ce_op op_mulR p_mul (cv_of (ce_var 2)) (cv_of (ce_op op_pow p_pow (cv_of ce_int) (cv_of ce_int))))) (cv_of (ce_call ((ok__law_draw e).mono (by decide)) c.hr c.hs rfl e.g__law_draw e.w__law_draw.kp e.b__law_draw c.tk (ca_cons (ce_var 0) (ca_cons (ce_op op_pow p_pow (cv_of ce_int) (cv_of ce_int)) ca_nil))))))))
    (css_one (cs_ret (ce_op op_mod p_mod (cv_of (ce_toint e.z_int (cv_of (ce_var 2)))) (cv_of (ce_var 1)))))))
theorem ok__law_end_right (e : At K mg) : FnG P w K mg base 7 e.f__law_end_right e.d__law_end_right ["_law_plan_here", "_law_robot_here", "_law_told"] (spOf ⟨w, K, mg⟩ 3 F__law_end_right) :=
  def_ok (k := 6) (n := 3) (N := N__law_end_right) (m := m__law_end_right) (O' := []) e.w__law_end_right sc__law_end_right rfl fun cdv A outer s H E c =>
    (css_cons (O1 := [false, false, false, false, false, false, false, false, false])
    (cs_asg (cf_of (ce_var 2)) (cg_tup rfl (cgs_cons (cg_name 3 sc__law_end_right.nd) (cgs_cons (cg_name 4 sc__law_end_right.nd) (cgs_cons (cg_name 5 sc__law_end_right.nd) cgs_nil)))))
    (css_cons (O1 := [false, false, false, false, false, false, false, false, false])
    (cs_if (O' := [false, false, false, false, false, false, false, false, false]) (ct_cmp (op_eqR c.hr) p_eq (cv_of (ce_var 3)) (cv_of ce_str) (nomark _)) (css_one (cs_ret (ce_and (ce_cmp op_isN p_is (cv_of (ce_var 4)) (cv_of ce_non) (nomark _)) (ce_and (ce_cmp op_isN p_is (cv_of (ce_var 5)) (cv_of ce_non) (nomark _)) (ce_one (ce_cmp op_notN p_isnot (cv_of (ce_call ((ok_plan_stand e).mono (by decide)) c.hr c.hs rfl e.g_plan_stand e.w_plan_stand.kp e.b_plan_stand c.tk (ca_cons (ce_var 0) (ca_cons (ce_var 1) (ca_cons (ce_op op_sub p_sub (cv_of (ce_op op_pow p_pow (cv_of ce_int) (cv_of ce_int))) (cv_of ce_int)) ca_nil))))) (cv_of ce_non) (nomark _))))))) css_nil)
    (css_cons (O1 := [false, false, false, false, false, false, false, false, false])
    (cs_set 6 sc__law_end_right.nd (ce_call ((ok_plan_stand e).mono (by decide)) c.hr c.hs rfl e.g_plan_stand e.w_plan_stand.kp e.b_plan_stand c.tk (ca_cons (ce_var 0) (ca_cons (ce_var 1) (ca_cons (ce_if (ct_cmp (op_eqR c.hr) p_eq (cv_of (ce_var 3)) (cv_of ce_str) (nomark _)) (ce_op op_sub p_sub (cv_of (ce_var 4)) (cv_of ce_int)) (ce_var 4)) ca_nil)))))
    (css_cons (O1 := [false, false, false, false, false, false, false, false, false])
    (cs_set 7 sc__law_end_right.nd (ce_call ((ok__law_next e).mono (by decide)) c.hr c.hs rfl e.g__law_next e.w__law_next.kp e.b__law_next c.tk (ca_cons (ce_var 0) (ca_cons (ce_var 1) (ca_cons (ce_var 6) ca_nil)))))
    (css_cons (O1 := [false, false, false, false, false, false, false, false, false])
    (cs_if (O' := [false, false, false, false, false, false, false, false, false]) (ct_cmp (op_neR c.hr) p_eq (cv_of (ce_of_cn (cn_lc rfl sc__law_end_right.nd (own := [("_law_k", 8)]) (cis_any (cv_of (ce_lst (ca_cons ce_int (ca_cons ce_int (ca_cons (ce_op op_pow p_pow (cv_of ce_int) (cv_of ce_int)) ca_nil)))))) (blkOk_by (N := N__law_end_right) (sc := (defScope s__law_end_right)) (by decide +kernel)) (fun _ _ _ _ _ => (cg_name 8 sc__law_end_right.nd)) (fun _ _ _ _ _ => cts_nil) (fun _ _ _ _ _ => (ce_call ((ok_plan_stand e).mono (by decide)) c.hr c.hs rfl e.g_plan_stand e.w_plan_stand.kp e.b_plan_stand lets_no (ca_cons (ce_var 0) (ca_cons (ce_var 1) (ca_cons (ce_op op_addR p_add (cv_of (ce_var 4)) (cv_of (ce_var 8))) ca_nil)))))))) (cv_of (ce_op op_mulR p_mul (cv_of (ce_lst (ca_cons ce_non ca_nil))) (cv_of ce_int))) (nomark _)) (css_one (cs_ret ce_bl)) css_nil)
    (css_cons (O1 := [false, false, false, false, false, false, false, false, false])
    (cs_if (O' := [false, false, false, false, false, false, false, false, false]) (ct_cmp (op_eqR c.hr) p_eq (cv_of (ce_var 3)) (cv_of ce_str) (nomark _)) (css_one (cs_ret (ce_and (ce_cmp op_isN p_is (cv_of (ce_var 5)) (cv_of ce_non) (nomark _)) (ce_and (ce_cmp (op_eqR c.hr) p_eq (cv_of (ce_var 7)) (cv_of (ce_tup (ca_cons ce_str (ca_cons ce_non ca_nil)))) (nomark _)) (ce_one (ce_cmp op_isN p_is (cv_of (ce_call ((ok_plan_stand e).mono (by decide)) c.hr c.hs rfl e.g_plan_stand e.w_plan_stand.kp e.b_plan_stand c.tk (ca_cons (ce_var 0) (ca_cons (ce_var 1) (ca_cons (ce_var 4) ca_nil))))) (cv_of ce_non) (nomark _))))))) css_nil)
    (css_one (cs_ret (ce_and (ce_cmp (op_eqR c.hr) p_eq (cv_of (ce_var 7)) (cv_of (ce_tup (ca_cons ce_str (ca_cons (ce_var 3) ca_nil)))) (nomark _)) (ce_one (ce_cmp (op_eqR c.hr) p_eq (cv_of (ce_reprD c.hr c.hs e.z_repr (cv_of (ce_ix ix_seq p_ix (cv_of (ce_var 6)) (cv_of ce_int) (fun _ _ => rfl))))) (cv_of (ce_reprD c.hr c.hs e.z_repr (cv_of (ce_var 5)))) (nomark _))))))))))))
theorem ok__law_meets_right (e : At K mg) : FnG P w K mg base 7 e.f__law_meets_right e.d__law_meets_right ["_law_plan_here", "_law_robot_here", "_law_told"] (spOf ⟨w, K, mg⟩ 3 F__law_meets_right) :=
  def_ok (k := 6) (n := 3) (N := N__law_meets_right) (m := m__law_meets_right) (O' := []) e.w__law_meets_right sc__law_meets_right rfl fun cdv A outer s H E c =>
    (css_cons (O1 := [false, false, false, false, false, false, false])
    (cs_lcSet 3 rfl sc__law_meets_right.nd (sw_true rfl rfl rfl (by decide +kernel)) (own := [("_law_sign", 4)]) (cis_any (cv_of (ce_of_cn (cn_sortsetT rfl c.hr e.z_sorted e.z_set (cv_of (ce_of_cn (cn_lc rfl sc__law_meets_right.nd (own := [("_law_entry", 5)]) (cis_any (cv_of (ce_var 0))) (blkOk_by (N := N__law_meets_right) (sc := (defScope s__law_meets_right)) (by decide +kernel)) (fun _ _ _ _ _ => (cg_name 5 sc__law_meets_right.nd)) (fun _ _ _ _ _ => cts_nil) (fun _ _ _ _ _ => (ce_ix ix_seq p_ix (cv_of (ce_var 5)) (cv_of ce_int) (fun _ _ => rfl)))))))))) (blkOk_by (N := N__law_meets_right) (sc := (defScope s__law_meets_right)) (by decide +kernel)) (fun _ _ _ _ _ => (cg_name 4 sc__law_meets_right.nd)) (fun _ _ _ _ _ => cts_nil) (fun _ _ _ _ _ => (ce_call ((ok_plan_meets e).mono (by decide)) c.hr c.hs rfl e.g_plan_meets e.w_plan_meets.kp e.b_plan_meets lets_no (ca_cons (ce_var 0) (ca_cons (ce_var 1) (ca_cons (ce_var 4) ca_nil))))))
    (css_cons (O1 := [false, false, false, false, false, false, false])
    (cs_if (O' := [false, false, false, false, false, false, false]) (ct_cmp (op_eqR c.hr) p_eq (cv_of (ce_ix ix_seq p_ix (cv_of (ce_var 2)) (cv_of ce_int) (fun _ _ => rfl))) (cv_of ce_str) (nomark _)) (css_one (cs_ret (ce_cmp (op_eqR c.hr) p_eq (cv_of (ce_var 3)) (cv_of (ce_op op_mulR p_mul (cv_of (ce_lst (ca_cons ce_non ca_nil))) (cv_of (ce_len e.z_len (cv_of (ce_var 3)))))) (nomark _)))) css_nil)
    (css_cons (O1 := [false, false, false, false, false, false, false])
    (cs_if (O' := [false, false, false, false, false, false, false]) (ct_cmp (op_neR c.hr) p_eq (cv_of (ce_of_cn (cn_lc rfl sc__law_meets_right.nd (own := [("_law_one_here", 6)]) (cis_any (cv_of (ce_var 3))) (blkOk_by (N := N__law_meets_right) (sc := (defScope s__law_meets_right)) (by decide +kernel)) (fun _ _ _ _ _ => (cg_name 6 sc__law_meets_right.nd)) (fun _ _ _ _ _ => (cts_one (ct_w (cw_or (ct_not (ct_truth (cv_of (ce_isi isa_int e.z_isinstance e.z_int bt_int (cv_of (ce_var 6)))))) (cw_or1 (ct_truth (cv_of (ce_isi isa_bool e.z_isinstance e.z_bool bt_bool (cv_of (ce_var 6)))))))))) (fun _ _ _ _ _ => (ce_var 6))))) (cv_of (ce_lst ca_nil)) (nomark _)) (css_one (cs_ret ce_bl)) css_nil)
    (css_one (cs_ret (ce_cmp (op_eqR c.hr) p_eq (cv_of (ce_sum rfl e.z_sum (cv_of (ce_var 3)))) (cv_of (ce_op op_addR p_add (cv_of (ce_ix ix_seq p_ix (cv_of (ce_var 2)) (cv_of ce_int) (fun _ _ => rfl))) (cv_of (ce_toint e.z_int (cv_of (ce_cmp (op_neR c.hr) p_eq (cv_of (ce_ix ix_seq p_ix (cv_of (ce_var 2)) (cv_of ce_int) (fun _ _ => rfl))) (cv_of ce_str) (nomark _))))))) (nomark _)))))))
theorem ok__law_right (e : At K mg) : FnG P w K mg base 8 e.f__law_right e.d__law_right ["_law_deck_here", "_law_plan_here", "_law_robot_here"] (spOf ⟨w, K, mg⟩ 3 F__law_right) :=
  def_ok (k := 7) (n := 3) (N := N__law_right) (m := m__law_right) (O' := []) e.w__law_right sc__law_right rfl fun cdv A outer s H E c =>
    (css_cons (O1 := [false, false, false, false, false, false, false, false])
    (cs_set 3 sc__law_right.nd (ce_call ((ok_plan_walk e).mono (by decide)) c.hr c.hs rfl e.g_plan_walk e.w_plan_walk.kp e.b_plan_walk c.tk (ca_cons (ce_var 1) (ca_cons (ce_var 2) ca_nil))))
    (css_cons (O1 := [false, false, false, false, false, false, false, false])
    (cs_if (O' := [false, false, false, false, false, false, false, false]) (ct_not (ct_truth (cv_of (ce_call ((ok__law_meets_right e).mono (by decide)) c.hr c.hs rfl e.g__law_meets_right e.w__law_meets_right.kp e.b__law_meets_right c.tk (ca_cons (ce_var 1) (ca_cons (ce_var 2) (ca_cons (ce_var 3) ca_nil))))))) (css_one (cs_ret ce_bl)) css_nil)
    (css_cons (O1 := [false, false, false, false, false, false, false, false])
    (cs_if (O' := [false, false, false, false, false, false, false, false]) (ct_w (cw_or (ct_cmp (op_neR c.hr) p_eq (cv_of (ce_reprD c.hr c.hs e.z_repr (cv_of (ce_call ((ok_plan_stand e).mono (by decide)) c.hr c.hs rfl e.g_plan_stand e.w_plan_stand.kp e.b_plan_stand c.tk (ca_cons (ce_var 1) (ca_cons (ce_var 2) (ca_cons ce_int ca_nil))))))) (cv_of ce_str) (nomark _)) (cw_or1 (ct_not (ct_truth (cv_of (ce_call ((ok__law_end_right e).mono (by decide)) c.hr c.hs rfl e.g__law_end_right e.w__law_end_right.kp e.b__law_end_right c.tk (ca_cons (ce_var 1) (ca_cons (ce_var 2) (ca_cons (ce_var 3) ca_nil)))))))))) (css_one (cs_ret ce_bl)) css_nil)
    (css_cons (O1 := [false, false, false, false, false, false, false, false])
    (cs_set 4 sc__law_right.nd (ce_if (ct_cmp op_isN p_is (cv_of (ce_ix ix_seq p_ix (cv_of (ce_var 3)) (cv_of ce_int) (fun _ _ => rfl))) (cv_of ce_non) (nomark _)) (ce_op op_sub p_sub (cv_of (ce_op op_pow p_pow (cv_of ce_int) (cv_of ce_int))) (cv_of ce_int)) (ce_op op_sub p_sub (cv_of (ce_ix ix_seq p_ix (cv_of (ce_var 3)) (cv_of ce_int) (fun _ _ => rfl))) (cv_of (ce_toint e.z_int (cv_of (ce_cmp (op_eqR c.hr) p_eq (cv_of (ce_ix ix_seq p_ix (cv_of (ce_var 3)) (cv_of ce_int) (fun _ _ => rfl))) (cv_of ce_str) (nomark _))))))))
    (css_cons (O1 := [false, false, false, false, false, false, false, false])
    (cs_for (O1 := [false, false, false, false, false, false, false, false]) c.ps rfl (ci_range1 rfl e.z_range (ca_cons ce_int ca_nil)) (cg_name 5 sc__law_right.nd)
    (css_one (cs_if (O' := [false, false, false, false, false, false, false, false]) (ct_cmp op_gtR p_gt (cv_of (ce_var 4)) (cv_of ce_int) (nomark _)) (css_cons (O1 := [false, false, false, false, false, false, false, false])
    (cs_set 6 sc__law_right.nd (ce_call ((ok__law_far e).mono (by decide)) c.hr c.hs rfl e.g__law_far e.w__law_far.kp e.b__law_far c.tk (ca_cons (ce_var 0) (ca_cons (ce_var 4) ca_nil))))
    (css_cons (O1 := [false, false, false, false, false, false, false, false])
    (cs_set 7 sc__law_right.nd (ce_call ((ok__law_next e).mono (by decide)) c.hr c.hs rfl e.g__law_next e.w__law_next.kp e.b__law_next c.tk (ca_cons (ce_var 1) (ca_cons (ce_var 2) (ca_cons (ce_call ((ok_plan_stand e).mono (by decide)) c.hr c.hs rfl e.g_plan_stand e.w_plan_stand.kp e.b_plan_stand c.tk (ca_cons (ce_var 1) (ca_cons (ce_var 2) (ca_cons (ce_var 6) ca_nil)))) ca_nil)))))
    (css_one (cs_if (O' := [false, false, false, false, false, false, false, false]) (ct_cmp (op_neR c.hr) p_eq (cv_of (ce_reprD c.hr c.hs e.z_repr (cv_of (ce_call ((ok_plan_stand e).mono (by decide)) c.hr c.hs rfl e.g_plan_stand e.w_plan_stand.kp e.b_plan_stand c.tk (ca_cons (ce_var 1) (ca_cons (ce_var 2) (ca_cons (ce_op op_addR p_add (cv_of (ce_var 6)) (cv_of ce_int)) ca_nil))))))) (cv_of (ce_reprD c.hr c.hs e.z_repr (cv_of (ce_var 7)))) (nomark _)) (css_one (cs_ret ce_bl)) css_nil)))) css_nil)))
    (css_one (cs_ret ce_bl)))))))
theorem ok_law (e : At K mg) : FnG P w K mg base 9 e.f_law e.d_law ["_law_script"] (spOf ⟨w, K, mg⟩ 1 F_law) :=
  def_ok (k := 8) (n := 1) (N := N_law) (m := m_law) (O' := []) e.w_law sc_law rfl fun cdv A outer s H E c =>
    (css_cons (O1 := [false, false, false, false, false, false])
    (cs_set 1 sc_law.nd (ce_call ((ok__law_deck e).mono (by decide)) c.hr c.hs rfl e.g__law_deck e.w__law_deck.kp e.b__law_deck c.tk (ca_cons (ce_var 0) ca_nil)))
    (css_cons (O1 := [false, false, false, false, false, false])
    (cs_for (O1 := [false, false, false, false, false, false]) c.ps rfl (ci_range1 rfl e.z_range (ca_cons ce_int ca_nil)) (cg_name 2 sc_law.nd)
    (css_cons (O1 := [false, false, false, false, false, false])
    (cs_set 3 sc_law.nd (ce_call ((ok__law_signs e).mono (by decide)) c.hr c.hs rfl e.g__law_signs e.w__law_signs.kp e.b__law_signs c.tk (ca_cons (ce_var 1) (ca_cons (ce_op op_addR p_add (cv_of ce_int) (cv_of (ce_call ((ok__law_draw e).mono (by decide)) c.hr c.hs rfl e.g__law_draw e.w__law_draw.kp e.b__law_draw c.tk (ca_cons (ce_var 1) (ca_cons ce_int ca_nil))))) ca_nil))))
    (css_cons (O1 := [false, false, false, false, false, false])
    (cs_set 4 sc_law.nd (ce_call ((ok__law_plan e).mono (by decide)) c.hr c.hs rfl e.g__law_plan e.w__law_plan.kp e.b__law_plan c.tk (ca_cons (ce_var 1) (ca_cons (ce_var 3) (ca_cons (ce_op op_addR p_add (cv_of ce_int) (cv_of (ce_call ((ok__law_draw e).mono (by decide)) c.hr c.hs rfl e.g__law_draw e.w__law_draw.kp e.b__law_draw c.tk (ca_cons (ce_var 1) (ca_cons ce_int ca_nil))))) ca_nil)))))
    (css_one (cs_if (O' := [false, false, false, false, false, false]) (ct_not (ct_truth (cv_of (ce_all rfl e.z_all (cv_of (ce_of_cn (cn_lc rfl sc_law.nd (own := [("_law_k", 5)]) (cis_of (ci_range1 rfl e.z_range (ca_cons ce_int ca_nil))) (blkOk_by (N := N_law) (sc := (defScope s_law)) (by decide +kernel)) (fun _ _ _ _ _ => (cg_name 5 sc_law.nd)) (fun _ _ _ _ _ => cts_nil) (fun _ _ _ _ _ => (ce_call ((ok__law_right e).mono (by decide)) c.hr c.hs rfl e.g__law_right e.w__law_right.kp e.b__law_right lets_no (ca_cons (ce_var 1) (ca_cons (ce_var 4) (ca_cons (ce_call ((ok__law_robot e).mono (by decide)) c.hr c.hs rfl e.g__law_robot e.w__law_robot.kp e.b__law_robot lets_no (ca_cons (ce_var 1) (ca_cons (ce_var 3) (ca_cons (ce_lst (ca_cons ce_str ca_nil)) (ca_cons ce_int ca_nil))))) ca_nil)))))))))))) (css_one (cs_ret ce_bl)) css_nil)))))
    (css_one (cs_ret ce_bl))))
end
theorem ql0 : String.length "stop" = 4 := rfl
theorem ql1 : String.length "abcdefghijklmnopqrstuvwxyz" = 26 := rfl
theorem ql2 : String.length "" = 0 := rfl
theorem ql3 : String.length "bdgkpx" = 6 := rfl
theorem ql4 : String.length "go" = 2 := rfl
theorem ql5 : String.length "lost" = 4 := rfl
theorem ql6 : String.length "out" = 3 := rfl
theorem ql7 : String.length "ever" = 4 := rfl
theorem ql8 : String.length "((), 0, 0)" = 10 := rfl
theorem ql9 : String.length "aha" = 3 := rfl
theorem ql10 : String.length "law_anymaze_k51_whole_great_plans_by_steps" = 42 := rfl
theorem at_mk {K : PySem.W.Frag} {h : Heap} {mg : Str → Option Value} {fa : Addr} (X : K.In h) (G : h.Ns mainGlobals mg) (hfa : mg "law" = some (.ref fa))
    {ca_Course : Addr} (cn_Course : PySem.W.nsIn K mainGlobals "Course" = some (some (.ref ca_Course))) (cg_Course : PySem.W.plainGet K ca_Course Str.empty = true) (ch_Course : PySem.W.hasDictIn K ca_Course = true) (co_Course : PySem.W.plainOver K ca_Course = true) (cs_Course : PySem.W.findIn K (.ref ca_Course) "__setattr__" = some (some (.builtin "object.__setattr__"))) (cq_Course : PySem.W.makesIn K ca_Course = true) (ck_Course : PySem.W.keepIn K (.ref ca_Course) = true)
    (cx_Course_plan : PySem.W.findIn K (.ref ca_Course) "plan" = some none)
    (cx_Course_results : PySem.W.findIn K (.ref ca_Course) "results" = some none)
    (cx_Course_legs : PySem.W.findIn K (.ref ca_Course) "legs" = some none)
    (cx_Course_steps : PySem.W.findIn K (.ref ca_Course) "steps" = some none)
    {f1 : Addr} {od1 an1 : Option Addr} {sl1 : Array (Option Value)} {oc1 kV1 dc1 pm1 cd1 ct1 : Value}
    (a1 : PySem.W.nsIn K mainGlobals "rule_for" = some (some (.ref f1))) (l1 : K.lookup f1 = some ⟨oc1, od1, .func (PySem.W.fnOf "rule_for" "rule_for" (defArgs s_rule_for) (defBody s_rule_for) (defScope s_rule_for) .none kV1 dc1 pm1 an1 cd1 ct1), sl1⟩) (c1 : PySem.W.codeIn K cd1 "rule_for" = true) (k1 : PySem.W.keepIn K (.ref f1) = true)
    {f2 : Addr} {od2 an2 : Option Addr} {sl2 : Array (Option Value)} {oc2 kV2 dc2 pm2 cd2 ct2 : Value}
    (a2 : PySem.W.nsIn K mainGlobals "deed_by" = some (some (.ref f2))) (l2 : K.lookup f2 = some ⟨oc2, od2, .func (PySem.W.fnOf "deed_by" "deed_by" (defArgs s_deed_by) (defBody s_deed_by) (defScope s_deed_by) .none kV2 dc2 pm2 an2 cd2 ct2), sl2⟩) (c2 : PySem.W.codeIn K cd2 "deed_by" = true) (k2 : PySem.W.keepIn K (.ref f2) = true)
    {f3 : Addr} {od3 an3 : Option Addr} {sl3 : Array (Option Value)} {oc3 kV3 dc3 pm3 cd3 ct3 : Value}
    (a3 : PySem.W.nsIn K mainGlobals "legs_of" = some (some (.ref f3))) (l3 : K.lookup f3 = some ⟨oc3, od3, .func (PySem.W.fnOf "legs_of" "legs_of" (defArgs s_legs_of) (defBody s_legs_of) (defScope s_legs_of) .none kV3 dc3 pm3 an3 cd3 ct3), sl3⟩) (c3 : PySem.W.codeIn K cd3 "legs_of" = true) (k3 : PySem.W.keepIn K (.ref f3) = true)
    {f4 : Addr} {od4 an4 : Option Addr} {sl4 : Array (Option Value)} {oc4 kV4 dc4 pm4 cd4 ct4 : Value}
    (a4 : PySem.W.nsIn K mainGlobals "room_results" = some (some (.ref f4))) (l4 : K.lookup f4 = some ⟨oc4, od4, .func (PySem.W.fnOf "room_results" "room_results" (defArgs s_room_results) (defBody s_room_results) (defScope s_room_results) .none kV4 dc4 pm4 an4 cd4 ct4), sl4⟩) (c4 : PySem.W.codeIn K cd4 "room_results" = true) (k4 : PySem.W.keepIn K (.ref f4) = true)
    {f5 : Addr} {od5 an5 : Option Addr} {sl5 : Array (Option Value)} {oc5 kV5 dc5 pm5 cd5 ct5 : Value}
    (a5 : PySem.W.findIn K (.ref ca_Course) "__init__" = some (some (.ref f5))) (i5 : PySem.W.isFn K (.ref f5) = true) (l5 : K.lookup f5 = some ⟨oc5, od5, .func (PySem.W.fnOf "__init__" "Course.__init__" (defArgs s_Course___init__) (defBody s_Course___init__) (defScope s_Course___init__) .none kV5 dc5 pm5 an5 cd5 ct5), sl5⟩) (c5 : PySem.W.codeIn K cd5 "Course.__init__" = true) (k5 : PySem.W.keepIn K (.ref f5) = true)
    {f6 : Addr} {od6 an6 : Option Addr} {sl6 : Array (Option Value)} {oc6 kV6 dc6 pm6 cd6 ct6 : Value}
    (a6 : PySem.W.findIn K (.ref ca_Course) "inner" = some (some (.ref f6))) (i6 : PySem.W.isFn K (.ref f6) = true) (l6 : K.lookup f6 = some ⟨oc6, od6, .func (PySem.W.fnOf "inner" "Course.inner" (defArgs s_Course_inner) (defBody s_Course_inner) (defScope s_Course_inner) .none kV6 dc6 pm6 an6 cd6 ct6), sl6⟩) (c6 : PySem.W.codeIn K cd6 "Course.inner" = true) (k6 : PySem.W.keepIn K (.ref f6) = true)
    {f7 : Addr} {od7 an7 : Option Addr} {sl7 : Array (Option Value)} {oc7 kV7 dc7 pm7 cd7 ct7 : Value}
    (a7 : PySem.W.findIn K (.ref ca_Course) "leg_steps" = some (some (.ref f7))) (i7 : PySem.W.isFn K (.ref f7) = true) (l7 : K.lookup f7 = some ⟨oc7, od7, .func (PySem.W.fnOf "leg_steps" "Course.leg_steps" (defArgs s_Course_leg_steps) (defBody s_Course_leg_steps) (defScope s_Course_leg_steps) .none kV7 dc7 pm7 an7 cd7 ct7), sl7⟩) (c7 : PySem.W.codeIn K cd7 "Course.leg_steps" = true) (k7 : PySem.W.keepIn K (.ref f7) = true)
    {f8 : Addr} {od8 an8 : Option Addr} {sl8 : Array (Option Value)} {oc8 kV8 dc8 pm8 cd8 ct8 : Value}
    (a8 : PySem.W.findIn K (.ref ca_Course) "steps_in" = some (some (.ref f8))) (i8 : PySem.W.isFn K (.ref f8) = true) (l8 : K.lookup f8 = some ⟨oc8, od8, .func (PySem.W.fnOf "steps_in" "Course.steps_in" (defArgs s_Course_steps_in) (defBody s_Course_steps_in) (defScope s_Course_steps_in) .none kV8 dc8 pm8 an8 cd8 ct8), sl8⟩) (c8 : PySem.W.codeIn K cd8 "Course.steps_in" = true) (k8 : PySem.W.keepIn K (.ref f8) = true)
    {f9 : Addr} {od9 an9 : Option Addr} {sl9 : Array (Option Value)} {oc9 kV9 dc9 pm9 cd9 ct9 : Value}
    (a9 : PySem.W.findIn K (.ref ca_Course) "last_path" = some (some (.ref f9))) (i9 : PySem.W.isFn K (.ref f9) = true) (l9 : K.lookup f9 = some ⟨oc9, od9, .func (PySem.W.fnOf "last_path" "Course.last_path" (defArgs s_Course_last_path) (defBody s_Course_last_path) (defScope s_Course_last_path) .none kV9 dc9 pm9 an9 cd9 ct9), sl9⟩) (c9 : PySem.W.codeIn K cd9 "Course.last_path" = true) (k9 : PySem.W.keepIn K (.ref f9) = true)
    {f10 : Addr} {od10 an10 : Option Addr} {sl10 : Array (Option Value)} {oc10 kV10 dc10 pm10 cd10 ct10 : Value}
    (a10 : PySem.W.findIn K (.ref ca_Course) "leg_behind" = some (some (.ref f10))) (i10 : PySem.W.isFn K (.ref f10) = true) (l10 : K.lookup f10 = some ⟨oc10, od10, .func (PySem.W.fnOf "leg_behind" "Course.leg_behind" (defArgs s_Course_leg_behind) (defBody s_Course_leg_behind) (defScope s_Course_leg_behind) .none kV10 dc10 pm10 an10 cd10 ct10), sl10⟩) (c10 : PySem.W.codeIn K cd10 "Course.leg_behind" = true) (k10 : PySem.W.keepIn K (.ref f10) = true)
    {f11 : Addr} {od11 an11 : Option Addr} {sl11 : Array (Option Value)} {oc11 kV11 dc11 pm11 cd11 ct11 : Value}
    (a11 : PySem.W.findIn K (.ref ca_Course) "stand_behind" = some (some (.ref f11))) (i11 : PySem.W.isFn K (.ref f11) = true) (l11 : K.lookup f11 = some ⟨oc11, od11, .func (PySem.W.fnOf "stand_behind" "Course.stand_behind" (defArgs s_Course_stand_behind) (defBody s_Course_stand_behind) (defScope s_Course_stand_behind) .none kV11 dc11 pm11 an11 cd11 ct11), sl11⟩) (c11 : PySem.W.codeIn K cd11 "Course.stand_behind" = true) (k11 : PySem.W.keepIn K (.ref f11) = true)
    {f12 : Addr} {od12 an12 : Option Addr} {sl12 : Array (Option Value)} {oc12 kV12 dc12 pm12 cd12 ct12 : Value}
    (a12 : PySem.W.findIn K (.ref ca_Course) "stands_with" = some (some (.ref f12))) (i12 : PySem.W.isFn K (.ref f12) = true) (l12 : K.lookup f12 = some ⟨oc12, od12, .func (PySem.W.fnOf "stands_with" "Course.stands_with" (defArgs s_Course_stands_with) (defBody s_Course_stands_with) (defScope s_Course_stands_with) .none kV12 dc12 pm12 an12 cd12 ct12), sl12⟩) (c12 : PySem.W.codeIn K cd12 "Course.stands_with" = true) (k12 : PySem.W.keepIn K (.ref f12) = true)
    {f13 : Addr} {od13 an13 : Option Addr} {sl13 : Array (Option Value)} {oc13 kV13 dc13 pm13 cd13 ct13 : Value}
    (a13 : PySem.W.nsIn K mainGlobals "plan_walk" = some (some (.ref f13))) (l13 : K.lookup f13 = some ⟨oc13, od13, .func (PySem.W.fnOf "plan_walk" "plan_walk" (defArgs s_plan_walk) (defBody s_plan_walk) (defScope s_plan_walk) .none kV13 dc13 pm13 an13 cd13 ct13), sl13⟩) (c13 : PySem.W.codeIn K cd13 "plan_walk" = true) (k13 : PySem.W.keepIn K (.ref f13) = true)
    {f14 : Addr} {od14 an14 : Option Addr} {sl14 : Array (Option Value)} {oc14 kV14 dc14 pm14 cd14 ct14 : Value}
    (a14 : PySem.W.nsIn K mainGlobals "plan_stand" = some (some (.ref f14))) (l14 : K.lookup f14 = some ⟨oc14, od14, .func (PySem.W.fnOf "plan_stand" "plan_stand" (defArgs s_plan_stand) (defBody s_plan_stand) (defScope s_plan_stand) .none kV14 dc14 pm14 an14 cd14 ct14), sl14⟩) (c14 : PySem.W.codeIn K cd14 "plan_stand" = true) (k14 : PySem.W.keepIn K (.ref f14) = true)
    {f15 : Addr} {od15 an15 : Option Addr} {sl15 : Array (Option Value)} {oc15 kV15 dc15 pm15 cd15 ct15 : Value}
    (a15 : PySem.W.nsIn K mainGlobals "plan_meets" = some (some (.ref f15))) (l15 : K.lookup f15 = some ⟨oc15, od15, .func (PySem.W.fnOf "plan_meets" "plan_meets" (defArgs s_plan_meets) (defBody s_plan_meets) (defScope s_plan_meets) .none kV15 dc15 pm15 an15 cd15 ct15), sl15⟩) (c15 : PySem.W.codeIn K cd15 "plan_meets" = true) (k15 : PySem.W.keepIn K (.ref f15) = true)
    {f16 : Addr} {od16 an16 : Option Addr} {sl16 : Array (Option Value)} {oc16 kV16 dc16 pm16 cd16 ct16 : Value}
    (a16 : PySem.W.nsIn K mainGlobals "_law_deck" = some (some (.ref f16))) (l16 : K.lookup f16 = some ⟨oc16, od16, .func (PySem.W.fnOf "_law_deck" "_law_deck" (defArgs s__law_deck) (defBody s__law_deck) (defScope s__law_deck) .none kV16 dc16 pm16 an16 cd16 ct16), sl16⟩) (c16 : PySem.W.codeIn K cd16 "_law_deck" = true) (k16 : PySem.W.keepIn K (.ref f16) = true)
    {f17 : Addr} {od17 an17 : Option Addr} {sl17 : Array (Option Value)} {oc17 kV17 dc17 pm17 cd17 ct17 : Value}
    (a17 : PySem.W.nsIn K mainGlobals "_law_draw" = some (some (.ref f17))) (l17 : K.lookup f17 = some ⟨oc17, od17, .func (PySem.W.fnOf "_law_draw" "_law_draw" (defArgs s__law_draw) (defBody s__law_draw) (defScope s__law_draw) .none kV17 dc17 pm17 an17 cd17 ct17), sl17⟩) (c17 : PySem.W.codeIn K cd17 "_law_draw" = true) (k17 : PySem.W.keepIn K (.ref f17) = true)
    {f18 : Addr} {od18 an18 : Option Addr} {sl18 : Array (Option Value)} {oc18 kV18 dc18 pm18 cd18 ct18 : Value}
    (a18 : PySem.W.nsIn K mainGlobals "_law_one" = some (some (.ref f18))) (l18 : K.lookup f18 = some ⟨oc18, od18, .func (PySem.W.fnOf "_law_one" "_law_one" (defArgs s__law_one) (defBody s__law_one) (defScope s__law_one) .none kV18 dc18 pm18 an18 cd18 ct18), sl18⟩) (c18 : PySem.W.codeIn K cd18 "_law_one" = true) (k18 : PySem.W.keepIn K (.ref f18) = true)
    {f19 : Addr} {od19 an19 : Option Addr} {sl19 : Array (Option Value)} {oc19 kV19 dc19 pm19 cd19 ct19 : Value}
    (a19 : PySem.W.nsIn K mainGlobals "_law_signs" = some (some (.ref f19))) (l19 : K.lookup f19 = some ⟨oc19, od19, .func (PySem.W.fnOf "_law_signs" "_law_signs" (defArgs s__law_signs) (defBody s__law_signs) (defScope s__law_signs) .none kV19 dc19 pm19 an19 cd19 ct19), sl19⟩) (c19 : PySem.W.codeIn K cd19 "_law_signs" = true) (k19 : PySem.W.keepIn K (.ref f19) = true)
    {f20 : Addr} {od20 an20 : Option Addr} {sl20 : Array (Option Value)} {oc20 kV20 dc20 pm20 cd20 ct20 : Value}
    (a20 : PySem.W.nsIn K mainGlobals "_law_plan" = some (some (.ref f20))) (l20 : K.lookup f20 = some ⟨oc20, od20, .func (PySem.W.fnOf "_law_plan" "_law_plan" (defArgs s__law_plan) (defBody s__law_plan) (defScope s__law_plan) .none kV20 dc20 pm20 an20 cd20 ct20), sl20⟩) (c20 : PySem.W.codeIn K cd20 "_law_plan" = true) (k20 : PySem.W.keepIn K (.ref f20) = true)
    {f21 : Addr} {od21 an21 : Option Addr} {sl21 : Array (Option Value)} {oc21 kV21 dc21 pm21 cd21 ct21 : Value}
    (a21 : PySem.W.nsIn K mainGlobals "_law_robot" = some (some (.ref f21))) (l21 : K.lookup f21 = some ⟨oc21, od21, .func (PySem.W.fnOf "_law_robot" "_law_robot" (defArgs s__law_robot) (defBody s__law_robot) (defScope s__law_robot) .none kV21 dc21 pm21 an21 cd21 ct21), sl21⟩) (c21 : PySem.W.codeIn K cd21 "_law_robot" = true) (k21 : PySem.W.keepIn K (.ref f21) = true)
    {f22 : Addr} {od22 an22 : Option Addr} {sl22 : Array (Option Value)} {oc22 kV22 dc22 pm22 cd22 ct22 : Value}
    (a22 : PySem.W.nsIn K mainGlobals "_law_next" = some (some (.ref f22))) (l22 : K.lookup f22 = some ⟨oc22, od22, .func (PySem.W.fnOf "_law_next" "_law_next" (defArgs s__law_next) (defBody s__law_next) (defScope s__law_next) .none kV22 dc22 pm22 an22 cd22 ct22), sl22⟩) (c22 : PySem.W.codeIn K cd22 "_law_next" = true) (k22 : PySem.W.keepIn K (.ref f22) = true)
    {f23 : Addr} {od23 an23 : Option Addr} {sl23 : Array (Option Value)} {oc23 kV23 dc23 pm23 cd23 ct23 : Value}
    (a23 : PySem.W.nsIn K mainGlobals "_law_far" = some (some (.ref f23))) (l23 : K.lookup f23 = some ⟨oc23, od23, .func (PySem.W.fnOf "_law_far" "_law_far" (defArgs s__law_far) (defBody s__law_far) (defScope s__law_far) .none kV23 dc23 pm23 an23 cd23 ct23), sl23⟩) (c23 : PySem.W.codeIn K cd23 "_law_far" = true) (k23 : PySem.W.keepIn K (.ref f23) = true)
    {f24 : Addr} {od24 an24 : Option Addr} {sl24 : Array (Option Value)} {oc24 kV24 dc24 pm24 cd24 ct24 : Value}
    (a24 : PySem.W.nsIn K mainGlobals "_law_end_right" = some (some (.ref f24))) (l24 : K.lookup f24 = some ⟨oc24, od24, .func (PySem.W.fnOf "_law_end_right" "_law_end_right" (defArgs s__law_end_right) (defBody s__law_end_right) (defScope s__law_end_right) .none kV24 dc24 pm24 an24 cd24 ct24), sl24⟩) (c24 : PySem.W.codeIn K cd24 "_law_end_right" = true) (k24 : PySem.W.keepIn K (.ref f24) = true)
    {f25 : Addr} {od25 an25 : Option Addr} {sl25 : Array (Option Value)} {oc25 kV25 dc25 pm25 cd25 ct25 : Value}
    (a25 : PySem.W.nsIn K mainGlobals "_law_meets_right" = some (some (.ref f25))) (l25 : K.lookup f25 = some ⟨oc25, od25, .func (PySem.W.fnOf "_law_meets_right" "_law_meets_right" (defArgs s__law_meets_right) (defBody s__law_meets_right) (defScope s__law_meets_right) .none kV25 dc25 pm25 an25 cd25 ct25), sl25⟩) (c25 : PySem.W.codeIn K cd25 "_law_meets_right" = true) (k25 : PySem.W.keepIn K (.ref f25) = true)
    {f26 : Addr} {od26 an26 : Option Addr} {sl26 : Array (Option Value)} {oc26 kV26 dc26 pm26 cd26 ct26 : Value}
    (a26 : PySem.W.nsIn K mainGlobals "_law_right" = some (some (.ref f26))) (l26 : K.lookup f26 = some ⟨oc26, od26, .func (PySem.W.fnOf "_law_right" "_law_right" (defArgs s__law_right) (defBody s__law_right) (defScope s__law_right) .none kV26 dc26 pm26 an26 cd26 ct26), sl26⟩) (c26 : PySem.W.codeIn K cd26 "_law_right" = true) (k26 : PySem.W.keepIn K (.ref f26) = true)
    {f27 : Addr} {od27 an27 : Option Addr} {sl27 : Array (Option Value)} {oc27 kV27 dc27 pm27 cd27 ct27 : Value}
    (a27 : PySem.W.nsIn K mainGlobals "law" = some (some (.ref f27))) (l27 : K.lookup f27 = some ⟨oc27, od27, .func (PySem.W.fnOf "law" "law" (defArgs s_law) (defBody s_law) (defScope s_law) .none kV27 dc27 pm27 an27 cd27 ct27), sl27⟩) (c27 : PySem.W.codeIn K cd27 "law" = true) (k27 : PySem.W.keepIn K (.ref f27) = true)
    (z_abs : PySem.W.nsIn K mainGlobals "abs" = some none)
    (z_all : PySem.W.nsIn K mainGlobals "all" = some none)
    (z_bool : PySem.W.nsIn K mainGlobals "bool" = some none)
    (z_enumerate : PySem.W.nsIn K mainGlobals "enumerate" = some none)
    (z_int : PySem.W.nsIn K mainGlobals "int" = some none)
    (z_isinstance : PySem.W.nsIn K mainGlobals "isinstance" = some none)
    (z_len : PySem.W.nsIn K mainGlobals "len" = some none)
    (z_range : PySem.W.nsIn K mainGlobals "range" = some none)
    (z_repr : PySem.W.nsIn K mainGlobals "repr" = some none)
    (z_set : PySem.W.nsIn K mainGlobals "set" = some none)
    (z_sorted : PySem.W.nsIn K mainGlobals "sorted" = some none)
    (z_sum : PySem.W.nsIn K mainGlobals "sum" = some none)
    (z_tuple : PySem.W.nsIn K mainGlobals "tuple" = some none)
    {t_EVER : Tok} (v_EVER : PySem.W.nsIn K mainGlobals "EVER" = some (some (.str "ever" t_EVER)))
    {t_LOST : Tok} (v_LOST : PySem.W.nsIn K mainGlobals "LOST" = some (some (.str "lost" t_LOST)))
    {t_OUT : Tok} (v_OUT : PySem.W.nsIn K mainGlobals "OUT" = some (some (.str "out" t_OUT)))
    : ∃ e : At K mg, e.f_law = fa := by
  cases hfa.symm.trans (PySem.W.mg_of X G a27)
  have w1 := fun_mk (st := s_rule_for) l1 c1 k1
  have b1 := w1.binds (ps := ["robot", "state", "sign", "doors"]) fun _ _ _ _ _ _ us hl => match us, hl with | [_, _, _, _], _ => rfl
  have w2 := fun_mk (st := s_deed_by) l2 c2 k2
  have b2 := w2.binds (ps := ["robot", "state", "rule"]) fun _ _ _ _ _ _ us hl => match us, hl with | [_, _, _], _ => rfl
  have w3 := fun_mk (st := s_legs_of) l3 c3 k3
  have b3 := w3.binds (ps := ["robot", "sign", "results", "state"]) fun _ _ _ _ _ _ us hl => match us, hl with | [_, _, _, _], _ => rfl
  have w4 := fun_mk (st := s_room_results) l4 c4 k4
  have b4 := w4.binds (ps := ["robot", "sign", "results"]) fun _ _ _ _ _ _ us hl => match us, hl with | [_, _, _], _ => rfl
  have w5 := fun_mk (st := s_Course___init__) l5 c5 k5
  have b5 := w5.binds (ps := ["self", "plan", "robot"]) fun _ _ _ _ _ _ us hl => match us, hl with | [_, _, _], _ => rfl
  have w6 := fun_mk (st := s_Course_inner) l6 c6 k6
  have b6 := w6.binds (ps := ["self", "entry", "leg"]) fun _ _ _ _ _ _ us hl => match us, hl with | [_, _, _], _ => rfl
  have w7 := fun_mk (st := s_Course_leg_steps) l7 c7 k7
  have b7 := w7.binds (ps := ["self", "entry", "leg"]) fun _ _ _ _ _ _ us hl => match us, hl with | [_, _, _], _ => rfl
  have w8 := fun_mk (st := s_Course_steps_in) l8 c8 k8
  have b8 := w8.binds (ps := ["self", "entry", "state"]) fun _ _ _ _ _ _ us hl => match us, hl with | [_, _, _], _ => rfl
  have w9 := fun_mk (st := s_Course_last_path) l9 c9 k9
  have b9 := w9.binds (ps := ["self"]) fun _ _ _ _ _ _ us hl => match us, hl with | [_], _ => rfl
  have w10 := fun_mk (st := s_Course_leg_behind) l10 c10 k10
  have b10 := w10.binds (ps := ["self", "entry", "state", "steps"]) fun _ _ _ _ _ _ us hl => match us, hl with | [_, _, _, _], _ => rfl
  have w11 := fun_mk (st := s_Course_stand_behind) l11 c11 k11
  have b11 := w11.binds (ps := ["self", "steps"]) fun _ _ _ _ _ _ us hl => match us, hl with | [_, _], _ => rfl
  have w12 := fun_mk (st := s_Course_stands_with) l12 c12 k12
  have b12 := w12.binds (ps := ["self", "sign"]) fun _ _ _ _ _ _ us hl => match us, hl with | [_, _], _ => rfl
  have w13 := fun_mk (st := s_plan_walk) l13 c13 k13
  have b13 := w13.binds (ps := ["plan", "robot"]) fun _ _ _ _ _ _ us hl => match us, hl with | [_, _], _ => rfl
  have w14 := fun_mk (st := s_plan_stand) l14 c14 k14
  have b14 := w14.binds (ps := ["plan", "robot", "steps"]) fun _ _ _ _ _ _ us hl => match us, hl with | [_, _, _], _ => rfl
  have w15 := fun_mk (st := s_plan_meets) l15 c15 k15
  have b15 := w15.binds (ps := ["plan", "robot", "sign"]) fun _ _ _ _ _ _ us hl => match us, hl with | [_, _, _], _ => rfl
  have w16 := fun_mk (st := s__law_deck) l16 c16 k16
  have b16 := w16.binds (ps := ["_law_script"]) fun _ _ _ _ _ _ us hl => match us, hl with | [_], _ => rfl
  have w17 := fun_mk (st := s__law_draw) l17 c17 k17
  have b17 := w17.binds (ps := ["_law_deck_here", "_law_many"]) fun _ _ _ _ _ _ us hl => match us, hl with | [_, _], _ => rfl
  have w18 := fun_mk (st := s__law_one) l18 c18 k18
  have b18 := w18.binds (ps := ["_law_deck_here", "_law_items"]) fun _ _ _ _ _ _ us hl => match us, hl with | [_, _], _ => rfl
  have w19 := fun_mk (st := s__law_signs) l19 c19 k19
  have b19 := w19.binds (ps := ["_law_deck_here", "_law_many"]) fun _ _ _ _ _ _ us hl => match us, hl with | [_, _], _ => rfl
  have w20 := fun_mk (st := s__law_plan) l20 c20 k20
  have b20 := w20.binds (ps := ["_law_deck_here", "_law_signs_here", "_law_many"]) fun _ _ _ _ _ _ us hl => match us, hl with | [_, _, _], _ => rfl
  have w21 := fun_mk (st := s__law_robot) l21 c21 k21
  have b21 := w21.binds (ps := ["_law_deck_here", "_law_signs_here", "_law_words", "_law_most"]) fun _ _ _ _ _ _ us hl => match us, hl with | [_, _, _, _], _ => rfl
  have w22 := fun_mk (st := s__law_next) l22 c22 k22
  have b22 := w22.binds (ps := ["_law_plan_here", "_law_robot_here", "_law_stand"]) fun _ _ _ _ _ _ us hl => match us, hl with | [_, _, _], _ => rfl
  have w23 := fun_mk (st := s__law_far) l23 c23 k23
  have b23 := w23.binds (ps := ["_law_deck_here", "_law_bound"]) fun _ _ _ _ _ _ us hl => match us, hl with | [_, _], _ => rfl
  have w24 := fun_mk (st := s__law_end_right) l24 c24 k24
  have b24 := w24.binds (ps := ["_law_plan_here", "_law_robot_here", "_law_told"]) fun _ _ _ _ _ _ us hl => match us, hl with | [_, _, _], _ => rfl
  have w25 := fun_mk (st := s__law_meets_right) l25 c25 k25
  have b25 := w25.binds (ps := ["_law_plan_here", "_law_robot_here", "_law_told"]) fun _ _ _ _ _ _ us hl => match us, hl with | [_, _, _], _ => rfl
  have w26 := fun_mk (st := s__law_right) l26 c26 k26
  have b26 := w26.binds (ps := ["_law_deck_here", "_law_plan_here", "_law_robot_here"]) fun _ _ _ _ _ _ us hl => match us, hl with | [_, _, _], _ => rfl
  have w27 := fun_mk (st := s_law) l27 c27 k27
  have b27 := w27.binds (ps := ["_law_script"]) fun _ _ _ _ _ _ us hl => match us, hl with | [_], _ => rfl
  exact ⟨{ f_rule_for := _, d_rule_for := _, w_rule_for := w1, b_rule_for := b1, g_rule_for := PySem.W.mg_of X G a1, f_deed_by := _, d_deed_by := _, w_deed_by := w2, b_deed_by := b2, g_deed_by := PySem.W.mg_of X G a2, f_legs_of := _, d_legs_of := _, w_legs_of := w3, b_legs_of := b3, g_legs_of := PySem.W.mg_of X G a3, f_room_results := _, d_room_results := _, w_room_results := w4, b_room_results := b4, g_room_results := PySem.W.mg_of X G a4, f_Course___init__ := _, d_Course___init__ := _, w_Course___init__ := w5, b_Course___init__ := b5, mt_Course___init__ := ⟨a5, i5, k5⟩, mk_Course := ⟨cq_Course, a5, i5, ck_Course⟩, f_Course_inner := _, d_Course_inner := _, w_Course_inner := w6, b_Course_inner := b6, mt_Course_inner := ⟨a6, i6, k6⟩, f_Course_leg_steps := _, d_Course_leg_steps := _, w_Course_leg_steps := w7, b_Course_leg_steps := b7, mt_Course_leg_steps := ⟨a7, i7, k7⟩, f_Course_steps_in := _, d_Course_steps_in := _, w_Course_steps_in := w8, b_Course_steps_in := b8, mt_Course_steps_in := ⟨a8, i8, k8⟩, f_Course_last_path := _, d_Course_last_path := _, w_Course_last_path := w9, b_Course_last_path := b9, mt_Course_last_path := ⟨a9, i9, k9⟩, f_Course_leg_behind := _, d_Course_leg_behind := _, w_Course_leg_behind := w10, b_Course_leg_behind := b10, mt_Course_leg_behind := ⟨a10, i10, k10⟩, f_Course_stand_behind := _, d_Course_stand_behind := _, w_Course_stand_behind := w11, b_Course_stand_behind := b11, mt_Course_stand_behind := ⟨a11, i11, k11⟩, f_Course_stands_with := _, d_Course_stands_with := _, w_Course_stands_with := w12, b_Course_stands_with := b12, mt_Course_stands_with := ⟨a12, i12, k12⟩, f_plan_walk := _, d_plan_walk := _, w_plan_walk := w13, b_plan_walk := b13, g_plan_walk := PySem.W.mg_of X G a13, f_plan_stand := _, d_plan_stand := _, w_plan_stand := w14, b_plan_stand := b14, g_plan_stand := PySem.W.mg_of X G a14, f_plan_meets := _, d_plan_meets := _, w_plan_meets := w15, b_plan_meets := b15, g_plan_meets := PySem.W.mg_of X G a15, f__law_deck := _, d__law_deck := _, w__law_deck := w16, b__law_deck := b16, g__law_deck := PySem.W.mg_of X G a16, f__law_draw := _, d__law_draw := _, w__law_draw := w17, b__law_draw := b17, g__law_draw := PySem.W.mg_of X G a17, f__law_one := _, d__law_one := _, w__law_one := w18, b__law_one := b18, g__law_one := PySem.W.mg_of X G a18, f__law_signs := _, d__law_signs := _, w__law_signs := w19, b__law_signs := b19, g__law_signs := PySem.W.mg_of X G a19, f__law_plan := _, d__law_plan := _, w__law_plan := w20, b__law_plan := b20, g__law_plan := PySem.W.mg_of X G a20, f__law_robot := _, d__law_robot := _, w__law_robot := w21, b__law_robot := b21, g__law_robot := PySem.W.mg_of X G a21, f__law_next := _, d__law_next := _, w__law_next := w22, b__law_next := b22, g__law_next := PySem.W.mg_of X G a22, f__law_far := _, d__law_far := _, w__law_far := w23, b__law_far := b23, g__law_far := PySem.W.mg_of X G a23, f__law_end_right := _, d__law_end_right := _, w__law_end_right := w24, b__law_end_right := b24, g__law_end_right := PySem.W.mg_of X G a24, f__law_meets_right := _, d__law_meets_right := _, w__law_meets_right := w25, b__law_meets_right := b25, g__law_meets_right := PySem.W.mg_of X G a25, f__law_right := _, d__law_right := _, w__law_right := w26, b__law_right := b26, g__law_right := PySem.W.mg_of X G a26, f_law := _, d_law := _, w_law := w27, b_law := b27, g_law := PySem.W.mg_of X G a27, ca_Course := _, cm_Course := ⟨PySem.W.mg_of X G cn_Course, ⟨cg_Course, ch_Course, co_Course, cs_Course⟩⟩, na_Course_plan := cx_Course_plan, na_Course_results := cx_Course_results, na_Course_legs := cx_Course_legs, na_Course_steps := cx_Course_steps, z_abs := PySem.W.mg_none_of X G z_abs, z_all := PySem.W.mg_none_of X G z_all, z_bool := PySem.W.mg_none_of X G z_bool, z_enumerate := PySem.W.mg_none_of X G z_enumerate, z_int := PySem.W.mg_none_of X G z_int, z_isinstance := PySem.W.mg_none_of X G z_isinstance, z_len := PySem.W.mg_none_of X G z_len, z_range := PySem.W.mg_none_of X G z_range, z_repr := PySem.W.mg_none_of X G z_repr, z_set := PySem.W.mg_none_of X G z_set, z_sorted := PySem.W.mg_none_of X G z_sorted, z_sum := PySem.W.mg_none_of X G z_sum, z_tuple := PySem.W.mg_none_of X G z_tuple, t_EVER := t_EVER, c_EVER := PySem.W.mg_of X G v_EVER, t_LOST := t_LOST, c_LOST := PySem.W.mg_of X G v_LOST, t_OUT := t_OUT, c_OUT := PySem.W.mg_of X G v_OUT }, rfl⟩
theorem walk (yes : ∀ ns : List Int, ns.length ≤ 63 → ∃ S, F_law [.scr ns] [] = .ok (.d (.bool true)) S) {q : Program} {loose : List Str} {XP : (Str → Option Value) → Heap → Prop} {YP : World → Heap → Prop} {d : DefRec} {K : Params → PySem.W.Frag} (nod : d.params.defaults = []) (ino : importsNone q = true)
    (kin : ∀ (w : World) (h : Heap), YP w h → (K w.params).In h)
    (F : ∀ (w : World) (mg : Str → Option Value) (fa : Addr) (h : Heap), (K w.params).In h → h.Ns mainGlobals mg → mg d.name = some (.ref fa) → ∃ e : At (K w.params) mg, e.f_law = fa) :
    PySem.W.WalkO q loose XP YP PySem.Challenge.rw_anymaze_k51_whole_great_plans_by_steps.row.toRowW d [] (fun f vs => PySem.call f vs) :=
  walk_to (n := 63) (k := 9) (x := "_law_script") rfl (by decide) nod ino ⟨rfl, by decide, by decide⟩ kin (fun w mg fa h a b c => by
    obtain ⟨e, rfl⟩ := F w mg fa h a b c
    exact ⟨e.d_law, e.b_law, fun base _ _ => ok_law e⟩) yes
local macro_rules
  | `(tactic| walk_at "go") => `(tactic| simp only [sSeq, ssat_next, ssat_toS, ssat_nx, ssat_rt, ssat_bk, ssat_ct, ssat_bad, ssat_ite, if_false_right, sat_ok, sat_bad, sat_exc, sat_bind, sat_ite, sPutO, sPutI, sPutD, eD, ownD, sAsg, fE, sIf, sNx, sRet, sDrop, sOwn, sApp, sExt, sPar, sFor, e1, e2, eV, eC, eA, eA1, aC, aN, eSl, oN, oS, eP, eM1, eIf, eCall, eChain, eJ, jC, jN, bB, bTr, bAnd, bOr, bNot, eAnd, eOr, eNot, bYes, iSeq, iA, ofG, ofO, fmtV, strV, tupleV, listV, iaddV, PD.eq_int, PD.eq_str, eq_self, gSet, ggNil, ggCons, ggTup, mkTup, mkLst, mkObj, asDs, asD, ownL,
      List.map_cons, List.map_nil, List.cons_append, List.nil_append, List.length_cons, List.length_nil, List.length_set, List.replicate, List.getElem?_cons_succ, List.getElem?_cons_zero, List.getElem?_nil, List.set_cons_succ, List.set_cons_zero, List.all_cons, List.all_nil, setAll, Option.map_some, Option.map_none, Option.bind_some, Option.bind_none,
      ixV, addV, subV, mulV, modV, divV, powV, negV, lenV, intV, absI, enumV, iterV, PD.slV, boolV, truthV, ltD, revA, ltV, gtV, leV, geV, isV, isNone, L2.atI, ixN, Bool.false_xor, Bool.true_xor, Bool.not_true, Bool.not_false, Bool.and_true, Bool.true_and, Bool.and_false, Bool.false_and, decide_true, decide_false, decide_eq_true_eq, Bool.and_eq_true, if_true, if_false, reduceIte, Bool.false_eq_true, Str.empty_append, List.length_append, ite_true, ite_false, true_and, and_true, Int.cast_ofNat_Int, Nat.reduceAdd, Nat.reduceSub, Nat.reduceLT, Int.reduceLT, Int.reduceLE, Int.reduceToNat, Nat.lt_add_one])
local macro_rules
  | `(tactic| walk_at "g0") => `(tactic| simp only [sSeq, ssat_next, ssat_toS, ssat_nx, ssat_rt, ssat_bk, ssat_ct, ssat_bad, ssat_ite, if_false_right, sat_ok, sat_bad, sat_exc, sat_bind, sat_ite, sPutO, sPutI, sPutD, eD, ownD, sAsg, fE, sIf, sNx, sRet, sDrop, sOwn, sApp, sExt, sPar, sFor, e1, e2, eV, eC, eA, eA1, aC, aN, eSl, oN, oS, eP, eM1, eIf, eCall, eChain, eJ, jC, jN, bB, bTr, bAnd, bOr, bNot, eAnd, eOr, eNot, bYes, iSeq, iA, ofG, ofO, fmtV, strV, tupleV, listV, iaddV, PD.eq_int, PD.eq_str, eq_self, gSet, ggNil, ggCons, ggTup, mkTup, mkLst, mkObj, asDs, asD, ownL,
      List.map_cons, List.map_nil, List.cons_append, List.nil_append, List.length_cons, List.length_nil, List.length_set, List.replicate, List.getElem?_cons_succ, List.getElem?_cons_zero, List.getElem?_nil, List.set_cons_succ, List.set_cons_zero, List.all_cons, List.all_nil, setAll, ixT0, ixT1, ixT2, ixL0, ixL1, ixL2, Option.map_some, Option.map_none, Option.bind_some, Option.bind_none,
      addV, subV, mulV, modV, divV, powV, negV, lenV, intV, absI, enumV, iterV, PD.slV, boolV, truthV, ltD, revA, ltV, gtV, leV, geV, isV, isNone, Bool.false_xor, Bool.true_xor, Bool.not_true, Bool.not_false, Bool.and_true, Bool.true_and, Bool.and_false, Bool.false_and, decide_true, decide_false, decide_eq_true_eq, Bool.and_eq_true, if_true, if_false, reduceIte, Bool.false_eq_true, Str.empty_append, List.length_append, ite_true, ite_false, true_and, and_true, Int.cast_ofNat_Int, Nat.reduceAdd, Nat.reduceSub, Nat.reduceLT, Int.reduceLT, Int.reduceLE, Int.reduceToNat, Nat.lt_add_one])
local macro_rules
  | `(tactic| walk_at "g1") => `(tactic| simp only [sSeq, ssat_next, ssat_toS, ssat_nx, ssat_rt, ssat_bk, ssat_ct, ssat_bad, ssat_ite, if_false_right, sat_ok, sat_bad, sat_exc, sat_bind, sat_ite, sPutO, sPutI, sPutD, eD, ownD, sAsg, fE, sIf, sNx, sRet, sDrop, sOwn, sApp, sExt, sPar, sFor, e1, e2, eV, eC, eA, eA1, aC, aN, eSl, oN, oS, eP, eM1, eIf, eCall, eChain, eJ, jC, jN, bB, bTr, bAnd, bOr, bNot, eAnd, eOr, eNot, bYes, iSeq, iA, ofG, ofO, fmtV, strV, tupleV, listV, iaddV, PD.eq_int, PD.eq_str, eq_self, gSet, ggNil, ggCons, ggTup, mkTup, mkLst, mkObj, asDs, asD, ownL,
      List.map_cons, List.map_nil, List.cons_append, List.nil_append, List.length_cons, List.length_nil, List.length_set, List.replicate, List.getElem?_cons_succ, List.getElem?_cons_zero, List.getElem?_nil, List.set_cons_succ, List.set_cons_zero, List.all_cons, List.all_nil, setAll, ixT0, ixT1, ixT2, ixL0, ixL1, ixL2, Option.map_some, Option.map_none, Option.bind_some, Option.bind_none,
      addV, subV, mulV, modV, divV, powV, negV, lenV, intV, absI, enumV, iterV, PD.slV, boolV, truthV, ltD, revA, ltV, gtV, leV, geV, isV, isNone, Bool.false_xor, Bool.true_xor, Bool.not_true, Bool.not_false, Bool.and_true, Bool.true_and, Bool.and_false, Bool.false_and, decide_true, decide_false, decide_eq_true_eq, Bool.and_eq_true, if_true, if_false, reduceIte, Bool.false_eq_true, Str.empty_append, List.length_append, ite_true, ite_false, true_and, and_true, Int.cast_ofNat_Int, Nat.reduceAdd, Nat.reduceSub, Nat.reduceLT, Int.reduceLT, Int.reduceSub, Int.reduceAdd, Int.reduceNeg, Int.reduceLE, Int.reduceToNat, Nat.lt_add_one])
local macro_rules
  | `(tactic| walk_at "g") => `(tactic| simp only [sSeq, ssat_next, ssat_toS, ssat_nx, ssat_rt, ssat_bk, ssat_ct, ssat_bad, ssat_ite, if_false_right, sat_ok, sat_bad, sat_exc, sat_bind, sat_ite, sPutO, sPutI, sPutD, sAug, eD, ownD, sAsg, fE, sIf, sNx, sRet, sDrop, sOwn, sApp, sExt, sPar, sFor, e1, e2, eV, eC, eA, eA1, aC, aN, eSl, oN, oS, eP, eM1, eIf, eCall, eChain, eJ, jC, jN, bB, bTr, bAnd, bOr, bNot, eAnd, eOr, eNot, bYes, iSeq, iA, ofG, ofO, fmtV, strV, tupleV, listV, iaddV, PD.eq_int, PD.eq_str, eq_self, gSet, ggNil, ggCons, ggTup, mkTup, mkLst, mkObj, asDs, asD, ownL,
      List.map_cons, List.map_nil, List.cons_append, List.nil_append, List.length_cons, List.length_nil, List.length_set, List.replicate, List.getElem?_cons_succ, List.getElem?_cons_zero, List.getElem?_nil, List.set_cons_succ, List.set_cons_zero, List.all_cons, List.all_nil, setAll, ixT0, ixT1, ixT2, ixL0, ixL1, ixL2, Option.map_some, Option.map_none, Option.bind_some, Option.bind_none,
      addV, subV, mulW, mulV, modV, divV, powV, negV, lenV, intV, absI, enumV, iterV, PD.slV, boolV, truthV, ltD, revA, ltV, gtV, leV, geV, isV, isNone, Bool.false_xor, Bool.true_xor, Bool.not_true, Bool.not_false, Bool.and_true, Bool.true_and, Bool.and_false, Bool.false_and, decide_true, decide_false, decide_eq_true_eq, Bool.and_eq_true, if_true, if_false, reduceIte, Bool.false_eq_true, Str.empty_append, List.length_append, ite_true, ite_false, true_and, and_true, Int.cast_ofNat_Int, Nat.reduceAdd, Nat.reduceSub, Nat.reduceLT, Int.reduceLT, Int.reduceSub, Int.reduceAdd, Int.reduceNeg, Int.reduceLE, Int.reduceToNat, Nat.lt_add_one, beq_iff_eq, sizeLine_eq, Nat.reduceLeDiff, inV_tup, inV_lst, eqv_str, eqv_int, eqV_nilT, cutD_tail, false_and, and_false, or_true, true_or, or_false, false_or, ixT3, Bool.true_eq_false, Bool.or_eq_false_iff, decide_eq_false_iff_not, Int.not_le, Int.not_lt, beq_self_eq_true, Int.reduceBEq, Bool.not_eq_eq_eq_not, beq_eq_false_iff_ne, ne_eq, not_true_eq_false, not_false_eq_true, List.isEmpty_cons, List.isEmpty_nil, List.any_cons, List.any_nil, Bool.or_false, Bool.or_eq_true, isaV, PyData.isInt, PyData.isStr, PyData.isBool, PyData.isTuple, PyData.isList, PyData.isDict, m__law_next_1_E, m__law_next_2_E, m__law_next_4_E, m__law_next_3_E, m__law_next_5_E, m__law_next_6_E, m__law_next_7_E, m__law_next_9_E, m__law_next_8_E, m__law_next_10_E, m__law_next_12_E, m__law_next_11_E, m__law_next_13_E, m__law_next_E, m__law_far_1_E, m__law_far_3_E, m__law_far_2_E, m__law_far_4_E, m__law_far_E, m__law_end_right_1_E, m__law_end_right_3_E, m__law_end_right_2_E, m__law_end_right_4_E, m__law_end_right_5_E, m__law_end_right_7_E, m__law_end_right_6_E, m__law_end_right_9_E, m__law_end_right_8_E, m__law_end_right_10_E, m__law_end_right_E, m__law_meets_right_1_E, m__law_meets_right_3_E, m__law_meets_right_2_E, m__law_meets_right_5_E, m__law_meets_right_4_E, m__law_meets_right_6_E, m__law_meets_right_E, m__law_right_1_E, m__law_right_3_E, m__law_right_2_E, m__law_right_5_E, m__law_right_4_E, m__law_right_6_E, m__law_right_9_E, m__law_right_10_E, m__law_right_12_E, m__law_right_11_E, m__law_right_8_E, m__law_right_7_E, m__law_right_13_E, m__law_right_E, m_law_1_E, m_law_3_E, m_law_4_E, m_law_6_E, m_law_5_E, m_law_2_E, m_law_7_E, m_law_E])
local macro_rules
  | `(tactic| walk_at "gt") => `(tactic| try walk_at "go")
local macro_rules
  | `(tactic| walk_at "gq") => `(tactic| try walk_at "g0")
local macro_rules
  | `(tactic| walk_at "len") => `(tactic| (simp only [Str.length_append, PySem.ofString_length, len_nil, sizeLine_eq, ql0, ql1, ql2, ql3, ql4, ql5, ql6, ql7, ql8, ql9, ql10] at *; omega))
local macro_rules
  | `(tactic| walk_at "fin") => `(tactic| ((repeat' apply And.intro) <;> first | assumption | exact True.intro | walk_at "len" | rfl))
local macro_rules
  | `(tactic| walk_at "start") => `(tactic| (rw [sat_body]; simp only [List.map_cons, List.map_nil, List.cons_append, List.nil_append, List.length_cons, List.length_nil, Nat.reduceAdd, Nat.reduceSub, List.replicate]))
local macro_rules
  | `(tactic| walk_at "wd") => `(tactic| first | assumption | exact Wd.none | exact Wd.bool | exact Wd.small (by decide) (by decide) | exact Wd.lit (by decide) | exact Wd.dict0 | exact Wd.tup Wds.nil | exact Wd.lst Wds.nil | (refine Wd.t1 (k := 2) (a := 990) ?_ (by decide) <;> walk_at "wd") | (refine Wd.t2 (k := 2) (a := 990) (b := 990) ?_ ?_ (by decide) <;> walk_at "wd") | (refine Wd.t3 (k := 2) (a := 990) (b := 990) (c := 990) ?_ ?_ ?_ (by decide) <;> walk_at "wd") | (refine Wd.t4 (k := 2) (a := 990) (b := 990) (c := 990) (e := 990) ?_ ?_ ?_ ?_ (by decide) <;> walk_at "wd") | (refine Wd.t1 (k := 1) (a := 240) ?_ (by decide) <;> walk_at "wd") | (refine Wd.t2 (k := 1) (a := 240) (b := 240) ?_ ?_ (by decide) <;> walk_at "wd") | (refine Wd.t3 (k := 1) (a := 240) (b := 240) (c := 240) ?_ ?_ ?_ (by decide) <;> walk_at "wd") | (refine Wd.t4 (k := 1) (a := 240) (b := 240) (c := 240) (e := 240) ?_ ?_ ?_ ?_ (by decide) <;> walk_at "wd") | (refine Wd.t1 (k := 0) (a := 55) ?_ (by decide) <;> walk_at "wd") | (refine Wd.t2 (k := 0) (a := 55) (b := 55) ?_ ?_ (by decide) <;> walk_at "wd") | (refine Wd.t3 (k := 0) (a := 55) (b := 55) (c := 55) ?_ ?_ ?_ (by decide) <;> walk_at "wd") | (refine Wd.t4 (k := 0) (a := 55) (b := 55) (c := 55) (e := 55) ?_ ?_ ?_ ?_ (by decide) <;> walk_at "wd"))
local macro_rules
  | `(tactic| walk_at "c") => `(tactic| simp only [eFld, sFldS, sAppO, eMeth, eMake, sSeq, ssat_next, ssat_toS, ssat_nx, ssat_rt, ssat_bk, ssat_ct, ssat_bad, ssat_ite, if_false_right, sat_ok, sat_bad, sat_exc, sat_bind, sat_ite, sPutO, sPutI, sPutD, sAug, eD, ownD, sAsg, fE, sIf, sNx, sRet, sDrop, sOwn, sApp, sExt, sPar, sFor, e1, e2, eV, eC, eA, eA1, aC, aN, eSl, oN, oS, eP, eM1, eIf, eCall, eChain, eJ, jC, jN, bB, bTr, bAnd, bOr, bNot, eAnd, eOr, eNot, bYes, iSeq, iA, ofG, ofO, fmtV, strV, tupleV, listV, iaddV, PD.eq_int, PD.eq_str, eq_self, gSet, ggNil, ggCons, ggTup, mkTup, mkLst, mkObj, asDs, asD, ownL,
      List.map_cons, List.map_nil, List.cons_append, List.nil_append, List.length_cons, List.length_nil, List.length_set, List.replicate, List.getElem?_cons_succ, List.getElem?_cons_zero, List.getElem?_nil, List.set_cons_succ, List.set_cons_zero, List.all_cons, List.all_nil, setAll, ixT0, ixT1, ixT2, ixL0, ixL1, ixL2, Option.map_some, Option.map_none, Option.bind_some, Option.bind_none,
      addV, subV, mulW, mulV, modV, divV, powV, negV, lenV, intV, absI, enumV, iterV, PD.slV, boolV, truthV, ltD, revA, ltV, gtV, leV, geV, isV, isNone, Bool.false_xor, Bool.true_xor, Bool.not_true, Bool.not_false, Bool.and_true, Bool.true_and, Bool.and_false, Bool.false_and, decide_true, decide_false, decide_eq_true_eq, Bool.and_eq_true, if_true, if_false, reduceIte, Bool.false_eq_true, Str.empty_append, List.length_append, ite_true, ite_false, true_and, and_true, Int.cast_ofNat_Int, Nat.reduceAdd, Nat.reduceSub, Nat.reduceLT, Int.reduceLT, Int.reduceSub, Int.reduceAdd, Int.reduceNeg, Int.reduceLE, Int.reduceToNat, Nat.lt_add_one, beq_iff_eq, sizeLine_eq, Nat.reduceLeDiff, inV_tup, inV_lst, eqv_str, eqv_int, eqV_nilT, cutD_tail, false_and, and_false, or_true, true_or, or_false, false_or, ixT3, Bool.true_eq_false, Bool.or_eq_false_iff, decide_eq_false_iff_not, Int.not_le, Int.not_lt, beq_self_eq_true, Int.reduceBEq, Bool.not_eq_eq_eq_not, beq_eq_false_iff_ne, ne_eq, not_true_eq_false, not_false_eq_true, List.isEmpty_cons, List.isEmpty_nil, List.any_cons, List.any_nil, Bool.or_false, Bool.or_eq_true, isaV, PyData.isInt, PyData.isStr, PyData.isBool, PyData.isTuple, PyData.isList, PyData.isDict, m__law_next_1_E, m__law_next_2_E, m__law_next_4_E, m__law_next_3_E, m__law_next_5_E, m__law_next_6_E, m__law_next_7_E, m__law_next_9_E, m__law_next_8_E, m__law_next_10_E, m__law_next_12_E, m__law_next_11_E, m__law_next_13_E, m__law_next_E, m__law_far_1_E, m__law_far_3_E, m__law_far_2_E, m__law_far_4_E, m__law_far_E, m__law_end_right_1_E, m__law_end_right_3_E, m__law_end_right_2_E, m__law_end_right_4_E, m__law_end_right_5_E, m__law_end_right_7_E, m__law_end_right_6_E, m__law_end_right_9_E, m__law_end_right_8_E, m__law_end_right_10_E, m__law_end_right_E, m__law_meets_right_1_E, m__law_meets_right_3_E, m__law_meets_right_2_E, m__law_meets_right_5_E, m__law_meets_right_4_E, m__law_meets_right_6_E, m__law_meets_right_E, m__law_right_1_E, m__law_right_3_E, m__law_right_2_E, m__law_right_5_E, m__law_right_4_E, m__law_right_6_E, m__law_right_9_E, m__law_right_10_E, m__law_right_12_E, m__law_right_11_E, m__law_right_8_E, m__law_right_7_E, m__law_right_13_E, m__law_right_E, m_law_1_E, m_law_3_E, m_law_4_E, m_law_6_E, m_law_5_E, m_law_2_E, m_law_7_E, m_law_E])
theorem cut_last {ds : List PyData} {x : PyData} : PD.cutD (ds ++ [x]) none (some (-1)) = ds := by
  unfold PD.cutD
  have h1 : HT.sIx (ds ++ [x]).length 0 none = 0 := rfl
  have h2 : HT.sIx (ds ++ [x]).length (ds ++ [x]).length (some (-1)) = ds.length := by
    simp only [HT.sIx, List.length_append, List.length_cons, List.length_nil]
    first | omega | (split <;> omega) | (simp; omega)
  rw [h1, h2]
  simp
theorem in_signL {a : Option Str} {s : Str} {S : Store} (h : ∀ t, a = some t → Tx 20 t) (k : Tx 20 s) : inV false (.d (optS a)) (.d (.list [.none, .str s])) S = .ok (.d (.bool (fitS a s))) S := by
  rw [← in_sign h k]
  cases a <;> rfl
theorem in_doorsL {b : Option Int} {q : Int} {S : Store} : inV false (.d (optI b)) (.d (.list [.none, .int q])) S = .ok (.d (.bool (fitD b q))) S := by
  rw [← in_doors]
  cases b <;> rfl
def nextD : Res ⊕ Std → PyData
  | .inl (.out _) => .tuple [.str "out", .none]
  | .inl r => r.d
  | .inr y => y.d
section
variable {P : Plan} {R : Rob}
theorem law_next_eq {S : Store} (hR : RobWf R) (h : PlanWf P) (hl : P.length ≤ 1000) {P' : Plan} {s0 : Str} {ns0 : List Nat} (ep : P = P' ++ [(s0, ns0)]) {x : Std} (hx : x.In (.mk s0 (bsOf P ns0)) R) (xl : x.path.length ≤ 1000) :
    F__law_next [.d (planD P), .d (robD R), .d x.d] S = .ok (.d (nextD (wStep (.mk s0 (bsOf P ns0)) R x).2)) S := by
  have sz : sizeLine = 16777216 := sizeLine_eq
  obtain ⟨⟨b, eb, d0, d1⟩, st0, st1⟩ := hx
  obtain ⟨path, door, st⟩ := x
  simp only at eb d0 d1 st0 st1 xl
  have q0 : P[P'.length]? = some (s0, ns0) := by rw [ep]; simp
  have hm := unf_ent h q0
  refine sat_eq ?_
  unfold F__law_next
  walk_at "start"
  rw [m__law_next_E]
  simp only [Std.d, pk]
  refine seq_sat (fun fr S' => S' = S ∧ fr = [some (.d (planD P)), some (.d (robD R)), some (.d (.tuple [.tuple (path.map .int), .int door, .int st])), some (.d (.tuple (path.map .int))), some (.d (.int door)), some (.d (.int st)), none, none, none, none, none, none, none]) ?_ ?_
  · walk_at "g"
  rintro fr S' ⟨rfl, rfl⟩
  refine seq_sat (fun fr S => S = S' ∧ fr = [some (.d (planD P)), some (.d (robD R)), some (.d (.tuple [.tuple (path.map .int), .int door, .int st])), some (.d (.tuple (path.map .int))), some (.d (.int door)), some (.d (.int st)), some (.d (entD (s0, ns0))), none, none, none, none, none, none]) ?_ ?_
  · walk_at "g"
    rw [show planD P = .tuple (P'.map entD ++ [entD (s0, ns0)]) by rw [planD, ep, List.map_append]; rfl, ixT_last]
    walk_at "g"
  rintro fr S ⟨rfl, rfl⟩
  refine seq_sat (fun fr S' => S' = S ∧ ∃ (e : Nat) (s : Str) (ns : List Nat) (x7 : Option SV), fr = [some (.d (planD P)), some (.d (robD R)), some (.d (.tuple [.tuple (path.map .int), .int door, .int st])), some (.d (.tuple (path.map .int))), some (.d (.int door)), some (.d (.int st)), some (.d (entD (s, ns))), x7, none, none, none, none, none] ∧ P[e]? = some (s, ns) ∧ b = .mk s (bsOf P ns)) ?_ ?_
  · walk_at "g"
    rw [show List.map SV.d (List.map PyData.int path) = path.map fun k => SV.d (.int k) by rw [List.map_map]; rfl]
    refine ssat_each (enc := fun k : Int => SV.d (.int k)) (fun done fr S' => S' = S ∧ ∃ (e : Nat) (s : Str) (ns : List Nat) (x7 : Option SV), fr = [some (.d (planD P)), some (.d (robD R)), some (.d (.tuple [.tuple (path.map .int), .int door, .int st])), some (.d (.tuple (path.map .int))), some (.d (.int door)), some (.d (.int st)), some (.d (entD (s, ns))), x7, none, none, none, none, none] ∧ P[e]? = some (s, ns) ∧ Maze.at? (.mk s0 (bsOf P ns0)) done = some (.mk s (bsOf P ns)))
      ⟨rfl, _, s0, ns0, none, rfl, q0, Maze.at_nil _⟩ (fun done k more ek fr S' ⟨e1, e, s, ns, x7, e2, q, ha⟩ => ?_) fun fr S' ⟨e1, e, s, ns, x7, e2, q, ha⟩ => ?_
    · subst e1 e2
      obtain ⟨k1, k2, kb⟩ : 1 ≤ k ∧ k ≤ ((bsOf P ns).length : Nat) ∧ ∃ b', (bsOf P ns)[(k - 1).toNat]? = some b' := by
        have := eb
        rw [ek, show done ++ k :: more = (done ++ [k]) ++ more by simp, Maze.at_app, Maze.at_app, ha] at this
        simp only [Option.bind_some] at this
        cases h1 : Maze.at? (.mk s (bsOf P ns)) [k] with
        | none => rw [h1] at this; cases this
        | some b' =>
          obtain ⟨k1, k2, kb⟩ := Maze.at_one h1
          exact ⟨k1, k2, b', kb⟩
      obtain ⟨b', kb⟩ := kb
      have lb : (bsOf P ns).length = ns.length := by rw [bsOf, List.length_map]
      have il : (k - 1).toNat < ns.length := by omega
      have nj := (h.at_ e (s, ns) q).2.2 _ (List.getElem_mem il)
      have he := (List.getElem?_eq_some_iff.mp q).1
      have nj : ns[(k - 1).toNat] < e := nj
      generalize hjd : ns[(k - 1).toNat] = n1 at nj
      have n1l : n1 < P.length := by omega
      generalize hen : P[n1]'n1l = en
      obtain ⟨s1, ns1⟩ := en
      have q1 : P[n1]? = some (s1, ns1) := by rw [List.getElem?_eq_getElem n1l, hen]
      have hm1 := unf_ent h q1
      have m1 : (unf P).getD n1 dM = .mk s1 (bsOf P ns1) := by rw [List.getD_eq_getElem?_getD, hm1]; rfl
      have bi : (bsOf P ns)[(k - 1).toNat]? = some (.mk s1 (bsOf P ns1)) := by
        rw [bsOf, List.getElem?_map, List.getElem?_eq_getElem il, hjd, Option.map_some, m1]
      refine ⟨_, rfl, ?_⟩
      walk_at "g"
      simp only [entD]
      walk_at "g"
      rw [ix_get (by omega) (by rw [List.length_map]; omega)]
      simp only [List.getElem_map, hjd]
      walk_at "g"
      rw [show planD P = .tuple (P.map entD) from rfl, ix_get (by omega) (by rw [List.length_map]; omega)]
      simp only [List.getElem_map, Int.toNat_natCast, hen]
      walk_at "g"
      refine ⟨n1, s1, ns1, some (.d (.int k)), rfl, q1, ?_⟩
      rw [Maze.at_app, ha, Option.bind_some]
      exact Maze.at_child k1 k2 bi
    · subst e1 e2
      exact ⟨rfl, e, s, ns, x7, rfl, q, Option.some.inj (eb.symm.trans ha)⟩
  · rintro fr S' ⟨rfl, e, s, ns, x7, rfl, q, hb⟩
    have hm := unf_ent h q
    have w : (Maze.mk s (bsOf P ns)).Wf := unf_wf h _ (List.mem_of_getElem? hm)
    have lb : (bsOf P ns).length = ns.length := by rw [bsOf, List.length_map]
    have two := w.two
    rw [lb] at two
    have hs : Tx 20 s := w.sn.tx.mono (by decide)
    have ws : (wStep (.mk s0 (bsOf P ns0)) R ⟨path, door, st⟩).2 = (gStep R s (1 + (ns.length : Nat)) ⟨path, door, st⟩).2 := by
      unfold wStep
      simp only
      rw [eb, hb]
      show (gStep R s (1 + ((bsOf P ns).length : Nat)) ⟨path, door, st⟩).2 = _
      rw [lb]
    rw [ws]
    obtain ⟨qd, hq⟩ : ∃ qd : Int, (1 : Int) + (ns.length : Nat) = qd := ⟨_, rfl⟩
    have q1 : 1 ≤ qd := by omega
    have q3 : qd ≤ 3 := by omega
    have hmR : R.getD st.toNat [] ∈ R := getD_mem (by omega)
    obtain ⟨r6, rw6⟩ := hR.st _ hmR
    have ix : ∀ S, ixV (.d (robD R)) (.d (.int st)) S = .ok (.d (.tuple ((R.getD st.toNat []).map Rl.d))) S := fun S => ix_mapT (enc := stD) st0 st1
    simp only [entD]
    walk_at "g"
    rw [List.length_map, hq]
    simp only [eLc]
    walk_at "g"
    rw [ix]
    walk_at "g"
    rw [comp_mapf (enc := Rl.d) (ys := R.getD st.toNat []) (b := fun r => Rl.fits s qd r) (f := fun r => r.dd.d) (fun r hr => ⟨_, rfl, sat_eq (by
      simp only [wipeF, Rl.d]
      walk_at "g0"
      refine ⟨by decide, ?_⟩
      rw [in_signL (rw6 r hr).sg hs]
      walk_at "g0"
      by_cases f1 : fitS r.sg s = true
      · rw [if_pos f1]
        refine ⟨by decide, ?_⟩
        rw [in_doorsL]
        walk_at "gq"
        show fitD r.dr _ = (fitS r.sg s && fitD r.dr _)
        rw [f1, Bool.true_and]
      · rw [if_neg f1]
        show false = (fitS r.sg s && fitD r.dr _)
        rw [Bool.eq_false_iff.mpr f1, Bool.false_and]), fun _ => sat_eq (by
      simp only [wipeF, Rl.d]
      walk_at "g")⟩) (by rw [List.length_nil]; omega)]
    have df := deed_filter s qd (R.getD st.toNat [])
    have dw := deedOf_wf hR st0 st1 s qd
    have g2 : (gStep R s qd ⟨path, door, st⟩).2 = match deedOf (R.getD st.toNat []) (ruleOf (R.getD st.toNat []) s qd) with
        | .stop w => .inl (.stop w)
        | .go a b => if 0 < (door + a) % qd then .inr ⟨path ++ [(door + a) % qd], 0, b⟩ else match path.getLast? with
          | none => .inl (.out b)
          | some k => .inr ⟨path.dropLast, k, b⟩ := rfl
    rw [g2, df]
    rw [df] at dw
    walk_at "g0"
    rw [PD.eq_nilL0]
    walk_at "g0"
    cases fl : (R.getD st.toNat []).filter (fun r => Rl.fits s qd r) with
    | nil =>
      simp only [List.map_nil, List.isEmpty_nil, if_true]
      walk_at "g0"
      rfl
    | cons r rest =>
      rw [fl] at dw
      simp only [List.map_cons, List.isEmpty_cons]
      walk_at "g0"
      cases hd : r.dd with
      | stop v =>
        simp only [Deed.d]
        walk_at "g0"
        rfl
      | go a c =>
        simp only [Deed.d]
        walk_at "g0"
        simp only [ne_go, if_false]
        refine ⟨by omega, ?_⟩
        by_cases z : 0 < (door + a) % qd
        · rw [if_pos z, if_pos z]
          refine ⟨by decide, by rw [List.length_map]; omega, by decide, ?_⟩
          simp only [nextD, Std.d, pk, List.map_append, List.map_cons, List.map_nil]
        · rw [if_neg z, if_neg z]
          rcases List.eq_nil_or_concat path with e | ⟨p0, k, e⟩
          · subst e
            simp only [List.map_nil, List.isEmpty_nil, if_true]
            rfl
          · rw [List.concat_eq_append] at e
            subst e
            rw [show ((p0 ++ [k]).map PyData.int).isEmpty = false by simp]
            simp only [Bool.false_eq_true, if_false]
            rw [List.map_append, List.map_cons, List.map_nil, ixT_last, cut_last]
            walk_at "gq"
            refine ⟨by decide, ?_⟩
            simp only [List.getLast?_append, List.getLast?_singleton, Option.some_or, List.dropLast_concat, nextD, Std.d, pk]
end
theorem far_ok {n0 bound : Int} {S : Store} {rest : Store} (D : Deck rest n0 S) (hn : n0 ≤ 800000000) (hb : 0 < bound) :
    (F__law_far [.obj 1, .d (.int bound)] S).sat (fun v S' => ∃ k : Nat, v = .d (.int (k : Nat)) ∧ (k : Int) < bound ∧ Deck rest (n0 + 8) S') NoX := by
  have sz : sizeLine = 16777216 := sizeLine_eq
  unfold F__law_far
  walk_at "start"
  rw [m__law_far_E]
  walk_at "g"
  rw [rng1_ok (by decide) (by decide)]
  walk_at "g"
  refine ssat_rng (fun j fr S => ∃ (k : Nat) (x3 : Option SV), fr = [some (.obj 1), some (.d (.int bound)), some (.d (.int (k : Nat))), x3] ∧ Deck rest (n0 + j) S) ⟨0, none, rfl, by simpa using D⟩ (fun j fr S hj ⟨k, x3, e, D⟩ => ?_) fun fr S ⟨k, x3, e, D⟩ => ?_
  · subst e
    refine ⟨_, rfl, ?_⟩
    walk_at "g"
    refine ⟨by decide, .inr (by decide), by decide, ?_⟩
    rw [show ((10 : Int) ^ 5) = 100000 by decide]
    refine (draw_ok D (by omega) (by decide) (by decide)).on fun v S ⟨q, e, q0, q1, D⟩ => ?_
    subst e
    obtain ⟨q, rfl⟩ : ∃ q' : Nat, q = q' := ⟨q.toNat, by omega⟩
    walk_at "g"
    refine ⟨k * 100000 + q, some (.d (.int (j : Nat))), ?_, D.mono (by omega)⟩
    rw [show (((k * 100000 + q : Nat)) : Int) = (k : Int) * 100000 + (q : Nat) by omega]
  · subst e
    show Rs.sat _ _ _
    walk_at "g"
    have m0 := Int.emod_nonneg (k : Int) (show bound ≠ 0 by omega)
    have m1 := Int.emod_lt_of_pos (k : Int) hb
    refine ⟨hb, ((k : Int) % bound).toNat, by rw [Int.toNat_of_nonneg m0], by omega, D⟩
def WordsOk (R : Rob) : Prop := ∀ rs ∈ R, ∀ r ∈ rs, ∀ w, r.dd = .stop w → w = "aha"
theorem deed_word {R : Rob} (hw : WordsOk R) {st : Int} {s : Str} {q : Int} {w : Str} (h : deedOf (R.getD st.toNat []) (ruleOf (R.getD st.toNat []) s q) = .stop w) : w = "aha" ∨ w = "lost" := by
  rw [deed_filter] at h
  cases fl : (R.getD st.toNat []).filter (Rl.fits s q) with
  | nil => rw [fl] at h; cases h; exact .inr rfl
  | cons r rest =>
    rw [fl] at h
    simp only at h
    have hr : r ∈ (R.getD st.toNat []).filter (Rl.fits s q) := by rw [fl]; simp
    have hr := (List.mem_filter.mp hr).1
    by_cases hs : st.toNat < R.length
    · rw [List.getD_eq_getElem?_getD, List.getElem?_eq_getElem hs] at hr
      exact .inl (hw _ (List.getElem_mem hs) r hr w h)
    · rw [List.getD_eq_getElem?_getD, List.getElem?_eq_none (by omega)] at hr
      cases hr
theorem step_word {m : Maze} {R : Rob} (hw : WordsOk R) {x : Std} {w : Str} (h : (wStep m R x).2 = .inl (.stop w)) : w = "aha" ∨ w = "lost" := by
  unfold wStep at h
  cases hr : Maze.at? m x.path with
  | none => rw [hr] at h; cases h
  | some r =>
    rw [hr] at h
    simp only [gStep] at h
    cases hd : deedOf (R.getD x.st.toNat []) (ruleOf (R.getD x.st.toNat []) r.sign (1 + (r.brs.length : Nat))) with
    | stop v =>
      rw [hd] at h
      cases h
      exact deed_word hw hd
    | go a b =>
      rw [hd] at h
      simp only at h
      split at h
      · cases h
      · split at h <;> cases h
theorem rob_words {signs ds : List PyData} {R : Rob} {n : Nat} (h : ∀ d ∈ ds, StateD signs [.str "aha"] n d) (e : PyData.tuple ds = robD R) : WordsOk R := by
  intro rs hrs r hr w hw
  have hd : stD rs ∈ ds := by
    have : ds = R.map stD := by injection e
    rw [this]
    exact List.mem_map_of_mem hrs
  have hs := h _ hd
  generalize hst : stD rs = d at hs
  cases hs with
  | mk hp hl =>
    rename_i rules
    have e2 : rs.map Rl.d = rules := by
      simp only [stD] at hst
      injection hst
    have hrd := hp r.d (by rw [← e2]; exact List.mem_map_of_mem hr)
    generalize hrr : r.d = d2 at hrd
    cases hrd with
    | mk h1 h2 h3 =>
      simp only [Rl.d] at hrr
      injection hrr with hrr
      injection hrr with _ hrr
      injection hrr with _ hrr
      injection hrr with hrr _
      rw [hw] at hrr
      simp only [Deed.d] at hrr
      cases h3 with
      | go _ _ _ _ =>
        injection hrr with hrr
        injection hrr with _ hrr
        injection hrr with _ hrr
        cases hrr
      | stop hm =>
        injection hrr with hrr
        injection hrr with _ hrr
        injection hrr with hrr _
        rw [← hrr, List.mem_singleton] at hm
        injection hm
theorem ever_some {m : Maze} {R : Rob} (hR : RobWf R) (w : m.Wf) {st : Int} (h0 : 0 ≤ st) (h1 : st < R.length) (h : (PD.resB R m).getD st.toNat default = .ever) (n : Nat) : ∃ y, aft m R n (gate st) = some y := by
  have := resB_ends (m := m) hR _ m [] (Nat.le_refl _) w (Maze.at_nil m) st h0 h1
  rw [h] at this
  obtain ⟨l, y, hl, wy, _⟩ := this n
  by_cases hn : n < l.length
  · exact ⟨_, by rw [show gate st = ⟨[], 0, st⟩ from rfl, aft_at wy hn, List.getElem?_eq_getElem hn]⟩
  · have e : n = l.length + 0 := by omega
    exact ⟨y, by rw [e, show gate st = ⟨[], 0, st⟩ from rfl, aft_way wy]; rfl⟩
theorem way_last {m : Maze} {R : Rob} {x : Std} {l : List Std} {e : Res ⊕ Std} (h : Way m R x l e) : ∃ l' z, l = l' ++ [z] ∧ (wStep m R z).2 = e := by
  induction h with
  | one h => exact ⟨[], _, rfl, h⟩
  | @cons x y l e h t ih =>
    obtain ⟨l', z, e1, e2⟩ := ih
    exact ⟨x :: l', z, by rw [e1]; rfl, e2⟩
theorem ans_cases {m : Maze} {R : Rob} (hR : RobWf R) (hw : WordsOk R) (w : m.Wf) :
    (planAns R m = .tuple [.str "ever", .none, .none] ∧ (PD.resB R m).getD 0 default = .ever) ∨
    (∃ l z k, planAns R m = .tuple [.str "out", .int ((l.length + 1 : Nat) : Int), .none] ∧ (PD.resB R m).getD 0 default = .out k ∧ Way m R (gate 0) (l ++ [z]) (.inl (.out k)) ∧ (wStep m R z).2 = .inl (.out k)) ∨
    (∃ l z v, planAns R m = .tuple [.str v, .int (l.length : Nat), pk z.path] ∧ (v = "aha" ∨ v = "lost") ∧ (PD.resB R m).getD 0 default = .stop v ∧ Way m R (gate 0) (l ++ [z]) (.inl (.stop v)) ∧ (wStep m R z).2 = .inl (.stop v)) := by
  have R1 := hR.one
  have gp := goOf_plan (st := 0) hR w (by omega) (by omega)
  have gr := goOf_res (st := 0) hR w (by omega) (by omega)
  have en := resB_ends (m := m) hR _ m [] (Nat.le_refl _) w (Maze.at_nil m) 0 (by omega) (by omega)
  simp only [Int.toNat_zero] at gr gp en
  cases hr : (PD.resB R m).getD 0 default with
  | ever => exact .inl ⟨by simp only [planAns, hr], rfl⟩
  | out k =>
    rw [hr] at en gr
    obtain ⟨l, wl, _⟩ := en
    have wl : Way m R (gate 0) l (.inl (.out k)) := wl
    have g1 := goOf_way hR w (by omega) (by omega) wl
    have g2 := gp.1 k gr
    rw [g1] at g2
    obtain ⟨l', z, e1, e2⟩ := way_last wl
    subst e1
    refine .inr (.inl ⟨l', z, k, ?_, rfl, wl, e2⟩)
    simp only [planAns, hr, g2, stepD, List.length_append, List.length_singleton]
  | stop v =>
    rw [hr] at en gr
    obtain ⟨l, wl, _⟩ := en
    have wl : Way m R (gate 0) l (.inl (.stop v)) := wl
    have g1 := goOf_way hR w (by omega) (by omega) wl
    obtain ⟨l', y, e1, e2, e3⟩ := gp.2 v gr
    rw [g1] at e1
    simp only at e1
    subst e1
    obtain ⟨l2, z, e4, e5⟩ := way_last wl
    obtain ⟨rfl, e6⟩ := List.append_inj' e4 rfl
    cases e6
    refine .inr (.inr ⟨l', y, v, ?_, step_word hw e5, rfl, wl, e5⟩)
    simp only [planAns, hr, e2, stepD, ← e3]
theorem at_len {P : Plan} (h : PlanWf P) : ∀ {p : List Int} {e : Nat} {s : Str} {ns : List Nat} {b : Maze}, P[e]? = some (s, ns) → Maze.at? (.mk s (bsOf P ns)) p = some b → p.length ≤ e
  | [], e, s, ns, b, q, hb => Nat.zero_le _
  | k :: p, e, s, ns, b, q, hb => by
    rw [show k :: p = [k] ++ p from rfl, Maze.at_app] at hb
    cases h1 : Maze.at? (.mk s (bsOf P ns)) [k] with
    | none => rw [h1] at hb; cases hb
    | some b' =>
      rw [h1, Option.bind_some] at hb
      obtain ⟨k1, k2, kb⟩ := Maze.at_one h1
      have kb : (bsOf P ns)[(k - 1).toNat]? = some b' := kb
      have lb : (bsOf P ns).length = ns.length := by rw [bsOf, List.length_map]
      have il : (k - 1).toNat < ns.length := by
        have := (List.getElem?_eq_some_iff.mp kb).1
        omega
      have nj := (h.at_ e (s, ns) q).2.2 _ (List.getElem_mem il)
      have he := (List.getElem?_eq_some_iff.mp q).1
      have nj : ns[(k - 1).toNat] < e := nj
      generalize hjd : ns[(k - 1).toNat] = n1 at nj
      have n1l : n1 < P.length := by omega
      generalize hen : P[n1]'n1l = en
      obtain ⟨s1, ns1⟩ := en
      have q1 : P[n1]? = some (s1, ns1) := by rw [List.getElem?_eq_getElem n1l, hen]
      have hm1 := unf_ent h q1
      have m1 : (unf P).getD n1 dM = .mk s1 (bsOf P ns1) := by rw [List.getD_eq_getElem?_getD, hm1]; rfl
      rw [bsOf, List.getElem?_map, List.getElem?_eq_getElem il, hjd, Option.map_some, m1] at kb
      cases kb
      have := at_len h q1 hb
      rw [List.length_cons]
      omega
theorem path_len {P : Plan} {R : Rob} (h : PlanWf P) {e : Nat} {s : Str} {ns : List Nat} {x : Std} (q : P[e]? = some (s, ns)) (hx : x.In (.mk s (bsOf P ns)) R) : x.path.length ≤ e := by
  obtain ⟨⟨b, eb, _⟩, _⟩ := hx
  exact at_len h q eb
theorem nva {v : Str} (h : v = "aha" ∨ v = "lost") : (v = Str.ofString "ever") = False ∧ (v = Str.ofString "out") = False := by
  rcases h with rfl | rfl
  · exact ⟨eq_false (by decide +kernel), eq_false (by decide +kernel)⟩
  · exact ⟨eq_false (by decide +kernel), eq_false (by decide +kernel)⟩
theorem none_three {P : Plan} {R : Rob} {S0 : Store} {steps : Nat} {x2 x3 x5 x6 x7 x8 : Option SV} {Q : List PyData → Store → Prop} (hR : RobWf R) (h : PlanWf P) (hl : P.length ≤ 60) {P' : Plan} {s0 : Str} {ns0 : List Nat} (ep : P = P' ++ [(s0, ns0)])
    (hn : ∀ n, steps < n → aft (.mk s0 (bsOf P ns0)) R n (gate 0) = none) (hq : ∀ more, Q [.none, .none, .none] (S0 ++ more)) :
    (compF (gSet 8) bYes (eCall 3 F_plan_stand (aC (eV 0) (aC (eV 1) (aC (PD.e2 addV (eV 4) (eV 8)) aN)))) [8] [some (SV.d (planD P)), some (SV.d (robD R)), x2, x3, some (.d (.int (steps : Nat))), x5, x6, x7, x8] (([1, 2, 100000000000000000000].map fun n : Nat => PyData.int (n : Nat)).map .d) S0 []).sat Q NoX := by
  refine sat_each (enc := fun n : Nat => PyData.int (n : Nat)) (fun done S acc => (∃ more, S = S0 ++ more) ∧ acc = List.replicate done.length .none) ⟨⟨[], by simp⟩, rfl⟩ (fun done n more S acc e al ⟨⟨mr, eS⟩, wa⟩ => ⟨_, rfl, ?_⟩) (by simp) fun S acc al ⟨⟨mr, eS⟩, wa⟩ => ?_
  · subst eS
    have n1 : 1 ≤ n := by
      have : n ∈ [1, 2, 100000000000000000000] := by rw [e]; simp
      simp only [List.mem_cons, List.not_mem_nil, or_false] at this
      omega
    simp only [wipeF]
    walk_at "g"
    rw [show ((steps : Nat) : Int) + (n : Nat) = ((steps + n : Nat) : Int) by omega]
    obtain ⟨m2, ew⟩ := plan_stand_eq (S := S0 ++ mr) hR h (by omega) ep (steps + n)
    rw [ew, hn _ (by omega)]
    walk_at "g"
    refine ⟨.none, rfl, ⟨mr ++ m2, by rw [List.append_assoc]⟩, ?_⟩
    rw [wa, ← List.replicate_succ', List.replicate_succ]
  · subst eS
    have e3 : acc = [.none, .none, .none] := wa
    subst e3
    exact hq _
theorem eq_same {ds : List PyData} {S : Store} (h : eqOk (.tuple ds) (.tuple ds) = true) (e : PyData.eqv (.tuple ds) (.tuple ds) = true) : PD.eqV false (.d (.tuple ds)) (.d (.tuple ds)) S = .ok (.d (.bool true)) S := by
  show (if eqOk (.tuple ds) (.tuple ds) = true then Rs.ok (SV.d (.bool (false ^^ PyData.eqv (.tuple ds) (.tuple ds)))) S else .bad) = _
  rw [if_pos h, e]
  rfl
theorem end_right_ok {P : Plan} {R : Rob} {S : Store} (hR : RobWf R) (hw : WordsOk R) (h : PlanWf P) (hl : P.length ≤ 60) {P' : Plan} {s0 : Str} {ns0 : List Nat} (ep : P = P' ++ [(s0, ns0)]) :
    (F__law_end_right [.d (planD P), .d (robD R), .d (planAns R (.mk s0 (bsOf P ns0)))] S).sat (fun v S' => v = .d (.bool true) ∧ ∃ more, S' = S ++ more) NoX := by
  have sz : sizeLine = 16777216 := sizeLine_eq
  have R1 := hR.one
  have q0 : P[P'.length]? = some (s0, ns0) := by rw [ep]; simp
  have hm := unf_ent h q0
  have mw : (Maze.mk s0 (bsOf P ns0)).Wf := unf_wf h _ (List.mem_of_getElem? hm)
  have ans := ans_cases hR hw mw
  unfold F__law_end_right
  walk_at "start"
  rw [m__law_end_right_E]
  rcases ans with ⟨e1, e2⟩ | ⟨l, z, k, e1, e2, wy, wz⟩ | ⟨l, z, v, e1, e2, e3, wy, wz⟩
  · rw [e1]
    walk_at "g"
    refine ⟨by decide, ?_⟩
    rw [show ((10 : Int) ^ 40 - 1) = ((9999999999999999999999999999999999999999 : Nat) : Int) by decide]
    obtain ⟨more, ew⟩ := plan_stand_eq (S := S) hR h (by omega) ep 9999999999999999999999999999999999999999
    obtain ⟨y, hy⟩ := ever_some (st := 0) hR mw (by omega) (by omega) e2 9999999999999999999999999999999999999999
    rw [ew, hy]
    simp only [stdO, Std.d]
    walk_at "g"
    exact ⟨_, rfl⟩
  · rw [e1]
    walk_at "g"
    simp only [nv1, if_false]
    rw [show ((l.length + 1 : Nat) : Int) - 1 = (l.length : Nat) by omega]
    obtain ⟨more, ew⟩ := plan_stand_eq (S := S) hR h (by omega) ep l.length
    have zin := wy.all_in hR (gate_in (by omega) (by omega)) z (by simp)
    have zp := path_len h q0 zin
    have lp : P.length = P'.length + 1 := by rw [ep]; simp
    have zl : (l ++ [z])[l.length]? = some z := by simp
    rw [ew, aft_at wy (by simp), zl]
    walk_at "g"
    simp only [stdO]
    rw [law_next_eq hR h (by omega) ep zin (by omega), wz]
    walk_at "g"
    simp only [eLc]
    walk_at "g"
    refine ⟨by decide, ?_⟩
    rw [show [SV.d (.int 1), SV.d (.int 2), SV.d (.int (10 ^ 20))] = (([1, 2, 100000000000000000000].map fun n : Nat => PyData.int (n : Nat)).map .d) from rfl]
    refine none_three (steps := l.length + 1) hR h hl ep (fun n hn => aft_end wy (by rw [List.length_append, List.length_singleton]; omega)) fun more2 => ?_
    refine ⟨⟨by decide, by decide⟩, ?_⟩
    rw [show ∀ S, PD.eqV true (.d (.list [.none, .none, .none])) (.d (.list [[PyData.none], [PyData.none], [PyData.none]].flatten)) S = .ok (.d (.bool false)) S from fun _ => rfl]
    walk_at "g"
    simp only [nextD]
    rw [eq_same (by decide +kernel) (by decide +kernel)]
    simp only [sat_ok, if_true, sat_bind]
    obtain ⟨more3, ew3⟩ := plan_stand_eq (S := S ++ more ++ more2) hR h (by omega) ep (l.length + 1)
    walk_at "g"
    rw [ew3, aft_end wy (by simp)]
    simp only [stdO]
    walk_at "g"
    exact ⟨_, by rw [List.append_assoc, List.append_assoc]⟩
  · rw [e1]
    walk_at "g"
    simp only [(nva e2).1, (nva e2).2, if_false]
    obtain ⟨more, ew⟩ := plan_stand_eq (S := S) hR h (by omega) ep l.length
    have zin := wy.all_in hR (gate_in (by omega) (by omega)) z (by simp)
    have zp := path_len h q0 zin
    have lp : P.length = P'.length + 1 := by rw [ep]; simp
    have zl : (l ++ [z])[l.length]? = some z := by simp
    rw [ew, aft_at wy (by simp), zl]
    walk_at "g"
    simp only [stdO]
    rw [law_next_eq hR h (by omega) ep zin (by omega), wz]
    walk_at "g"
    simp only [eLc]
    walk_at "g"
    refine ⟨by decide, ?_⟩
    rw [show [SV.d (.int 1), SV.d (.int 2), SV.d (.int (10 ^ 20))] = (([1, 2, 100000000000000000000].map fun n : Nat => PyData.int (n : Nat)).map .d) from rfl]
    refine none_three (steps := l.length) hR h hl ep (fun n hn => aft_end wy (by rw [List.length_append, List.length_singleton]; omega)) fun more2 => ?_
    refine ⟨⟨by decide, by decide⟩, ?_⟩
    rw [show ∀ S, PD.eqV true (.d (.list [.none, .none, .none])) (.d (.list [[PyData.none], [PyData.none], [PyData.none]].flatten)) S = .ok (.d (.bool false)) S from fun _ => rfl]
    walk_at "g"
    simp only [nextD, Res.d]
    have e9 : ∀ S, PD.eqV false (.d (.tuple [.str "stop", .str v])) (.d (.tuple [.str "stop", .str v])) S = .ok (.d (.bool true)) S := fun S => by
      rcases e2 with rfl | rfl
      · exact eq_same (by decide +kernel) (by decide +kernel)
      · exact eq_same (by decide +kernel) (by decide +kernel)
    rw [e9]
    simp only [sat_ok, if_true, sat_bind, Std.d]
    walk_at "g"
    obtain ⟨bz, ebz, _⟩ := zin.room
    have wd := pk_wd (L := 60) (Maze.at_path mw ebz) (by omega)
    rw [wd.repr]
    walk_at "g"
    rw [wd.repr]
    walk_at "g"
    exact ⟨_, by rw [List.append_assoc]⟩
theorem sortsetT_ok {S : Store} {ts : List Str} (hl : ts.length < 64) : ∃ gs : List Str, sortSetT (.d (.list (ts.map .str))) S = .ok (.d (.list (gs.map .str))) S ∧ (∀ p, p ∈ gs ↔ p ∈ ts) ∧ gs.Nodup ∧ gs.length ≤ ts.length := by
  obtain ⟨m, nd⟩ := ddup_spec (txt_keyed ts)
  obtain ⟨gs, hq⟩ : ∃ gs : List Str, dsort (ddup (ts.map .str)) = gs.map .str := map_of_all fun d hd => by
    have := (m d).mp ((dsort_perm _).mem_iff.mp hd)
    obtain ⟨p, _, rfl⟩ := List.mem_map.mp this
    exact ⟨p, rfl⟩
  have inj : ∀ (l : List Str) (p : Str), PyData.str p ∈ l.map PyData.str ↔ p ∈ l := fun l p => ⟨fun h => by
    obtain ⟨q, hq, e⟩ := List.mem_map.mp h
    injection e with e
    rw [← e]
    exact hq, fun h => List.mem_map.mpr ⟨p, h, rfl⟩⟩
  refine ⟨gs, ?_, fun p => ?_, ?_, ?_⟩
  · have es : strsOf (ts.map PyData.str) = some ts := by
      clear hl m nd hq
      induction ts with
      | nil => rfl
      | cons t r ih => rw [List.map_cons, strsOf, ih]; rfl
    show (match strsOf (ts.map PyData.str) with
      | some ts' => if ts'.length < 64 then Rs.ok (SV.d (.list (dsort (ddup (ts.map PyData.str))))) S else .bad
      | none => .bad) = _
    rw [es]
    simp only
    rw [if_pos hl, hq]
  · rw [← inj gs, ← hq, (dsort_perm _).mem_iff, m, inj]
  · have : (gs.map PyData.str).Nodup := by rw [← hq]; exact (dsort_perm _).nodup_iff.mpr nd
    rw [List.Nodup, List.pairwise_map] at this
    exact this.imp fun ne e => ne (by rw [e])
  · have e := congrArg List.length hq
    rw [List.length_map, (dsort_perm _).length_eq] at e
    have := ddup_len (ts.map PyData.str)
    rw [List.length_map] at this
    omega
theorem nones_lay : ∀ k : Nat, PyData.canLayAll0 (List.replicate k .none) = true ∧ PyData.depthAll (List.replicate k .none) = 0 ∧ PyData.eqvAll (List.replicate k .none) (List.replicate k .none) = true
  | 0 => ⟨rfl, rfl, rfl⟩
  | k + 1 => by
    obtain ⟨a, b, c⟩ := nones_lay k
    rw [List.replicate_succ]
    exact ⟨by rw [PyData.canLayAll0, a]; rfl, by rw [PyData.depthAll, b]; rfl, by rw [PyData.eqvAll, c]; rfl⟩
theorem eq_nones {k : Nat} {S : Store} : PD.eqV false (.d (.list (List.replicate k .none))) (.d (.list (List.replicate k .none))) S = .ok (.d (.bool true)) S := by
  obtain ⟨a, b, c⟩ := nones_lay k
  have ok : eqOk (.list (List.replicate k .none)) (.list (List.replicate k .none)) = true := by
    simp only [eqOk, PyData.canLay0, a, PyData.depth, b]
    rfl
  have e : PyData.eqv (.list (List.replicate k .none)) (.list (List.replicate k .none)) = true := by rw [PyData.eqv, c]
  show (if eqOk (.list (List.replicate k .none)) (.list (List.replicate k .none)) = true then Rs.ok (SV.d (.bool (false ^^ PyData.eqv (.list (List.replicate k .none)) (.list (List.replicate k .none))))) S else .bad) = _
  rw [if_pos ok, e]
  rfl
theorem flat_ones {α : Type} (x : α) : ∀ k : Nat, (List.replicate k [x]).flatten = List.replicate k x
  | 0 => rfl
  | k + 1 => by rw [List.replicate_succ, List.flatten_cons, flat_ones x k]; rfl
theorem step_of {o : Option Nat} {n : Nat} (h : stepD o = .int (n : Nat)) : o = some n := by
  cases o with
  | none => cases h
  | some m =>
    simp only [stepD] at h
    injection h with h
    congr 1
    omega
theorem meets_right_ok {P : Plan} {R : Rob} {S : Store} (hR : RobWf R) (hw : WordsOk R) (h : PlanWf P) (hl : P.length ≤ 60) {P' : Plan} {s0 : Str} {ns0 : List Nat} (ep : P = P' ++ [(s0, ns0)]) :
    (F__law_meets_right [.d (planD P), .d (robD R), .d (planAns R (.mk s0 (bsOf P ns0)))] S).sat (fun v S' => v = .d (.bool true) ∧ ∃ more, S' = S ++ more) NoX := by
  have sz : sizeLine = 16777216 := sizeLine_eq
  have R1 := hR.one
  have q0 : P[P'.length]? = some (s0, ns0) := by rw [ep]; simp
  have hm := unf_ent h q0
  have mw : (Maze.mk s0 (bsOf P ns0)).Wf := unf_wf h _ (List.mem_of_getElem? hm)
  have ans := ans_cases hR hw mw
  obtain ⟨gs, eg, gm, gnd, gl⟩ := sortsetT_ok (S := S) (ts := P.map (·.1)) (by rw [List.length_map]; omega)
  rw [List.length_map] at gl
  have all : AllS gs (.mk s0 (bsOf P ns0)) := unf_allS (fun e he => (gm _).mpr (List.mem_map_of_mem he)) h _ (List.mem_of_getElem? hm)
  have gtx : ∀ g ∈ gs, Tx 20 g := fun g hg => by
    obtain ⟨e, he, rfl⟩ := List.mem_map.mp ((gm g).mp hg)
    obtain ⟨i, hi, rfl⟩ := List.mem_iff_getElem.mp he
    exact (h.at_ i _ (List.getElem?_eq_getElem hi)).1.tx.mono (by decide)
  have ef : ∀ xs : List Int, List.filter (fun _ => false) xs = [] := fun xs => by simp
  have msum := fun hv => meets_sum (R := R) hR gnd _ (.mk s0 (bsOf P ns0)) (Nat.le_refl _) mw all 0 (by omega) (by omega) hv
  obtain ⟨M, hM⟩ : ∃ M, M = Maze.mk s0 (bsOf P ns0) := ⟨_, rfl⟩
  unfold F__law_meets_right
  walk_at "start"
  rw [m__law_meets_right_E]
  walk_at "g"
  simp only [eLc]
  walk_at "g"
  rw [show planD P = .tuple (P.map entD) from rfl]
  simp only [eLc]
  walk_at "g"
  rw [comp_map (enc := entD) (ys := P) (f := fun e => .str e.1) (fun e he => ⟨_, rfl, sat_eq (by
    simp only [wipeF, entD]
    walk_at "g")⟩) (by rw [sz]; simp; omega)]
  try walk_at "g"
  rw [show (P.map fun e => PyData.str e.1) = (P.map (·.1)).map .str by rw [List.map_map]; rfl, eg]
  try walk_at "g"
  refine sat_each (enc := PyData.str) (ys := gs) (fun done S' acc => (∃ more, S' = S ++ more) ∧ acc = done.map fun g => stepD ((meB R g M).getD 0 none)) ⟨⟨[], by simp⟩, rfl⟩ (fun done g more S' acc e al ⟨⟨mr, eS⟩, wa⟩ => ⟨_, rfl, ?_⟩) (by omega) fun S' acc al ⟨⟨mr, eS⟩, wa⟩ => ?_
  · subst eS
    simp only [wipeF]
    walk_at "g"
    obtain ⟨m2, ew⟩ := plan_meets_eq (S := S ++ mr) hR h (by omega) ep (gtx g (by rw [e]; simp))
    rw [show PyData.tuple (P.map entD) = planD P from rfl, ew, ← hM, sat_ok]
    exact ⟨_, rfl, ⟨mr ++ m2, by rw [List.append_assoc]⟩, by rw [wa, List.map_append]; rfl⟩
  · subst eS wa
    rw [← hM] at ans msum
    rcases ans with ⟨e1, e2⟩ | ⟨l, z, k, e1, e2, wy, wz⟩ | ⟨l, z, v, e1, e2, e3, wy, wz⟩
    · rw [← hM, e1]
      walk_at "g"
      have er : (gs.map fun g => stepD ((meB R g M).getD 0 none)) = List.replicate gs.length .none := by
        refine List.eq_replicate_iff.mpr ⟨by simp, fun d hd => ?_⟩
        obtain ⟨g, _, rfl⟩ := List.mem_map.mp hd
        have := meB_none (m := M) (g := g) (st := 0) (by omega) (by omega) e2
        rw [Int.toNat_zero] at this
        rw [this]
        rfl
      rw [er, List.length_replicate, Int.toNat_natCast, flat_ones, eq_nones]
      walk_at "g"
      exact ⟨⟨⟨by omega, by omega⟩, by omega⟩, _, rfl⟩
    · have hv : (PD.resB R M).getD 0 default ≠ .ever := by rw [e2]; intro z; cases z
      have ms := msum hv
      rw [Int.toNat_zero, e2] at ms
      have e5 := e1
      simp only [planAns, e2] at e5
      injection e5 with e5
      injection e5 with _ e5
      injection e5 with e5 _
      rw [step_of e5] at ms
      have ev : ∀ g, ∃ v, (meB R g M).getD 0 none = some v := fun g => meB_some (m := M) (st := 0) (by omega) (by omega) hv
      have er : (gs.map fun g => stepD ((meB R g M).getD 0 none)) = (gs.map fun g => ((((meB R g M).getD 0 none).getD 0 : Nat) : Int)).map PyData.int := by
        rw [List.map_map]
        refine List.map_congr_left fun g _ => ?_
        obtain ⟨v, hv⟩ := ev g
        simp only [Function.comp, hv]
        rfl
      rw [← hM, e1]
      walk_at "g"
      simp only [nv1, if_false]
      rw [er, comp_mapf (enc := PyData.int) (b := fun _ => false) (f := PyData.int) (fun k hk => ⟨_, rfl, sat_eq (by
        simp only [wipeF]
        walk_at "g"), fun z => by cases z⟩) (by rw [sz]; simp; omega)]
      rw [ef, sat_ok, List.map_nil, List.append_nil, PD.eq_nilL0]
      walk_at "g"
      rw [sum_ok, cast_sumN, ms]
      walk_at "g"
      simp only [stp, Option.getD_some]
      refine ⟨?_, _, rfl⟩
      rw [Nat.add_zero, Int.add_zero, beq_self_eq_true]
    · have hv : (PD.resB R M).getD 0 default ≠ .ever := by rw [e3]; intro z; cases z
      have ms := msum hv
      rw [Int.toNat_zero, e3] at ms
      have e5 := e1
      simp only [planAns, e3] at e5
      injection e5 with e5
      injection e5 with _ e5
      injection e5 with e5 _
      rw [step_of e5] at ms
      have ev : ∀ g, ∃ v, (meB R g M).getD 0 none = some v := fun g => meB_some (m := M) (st := 0) (by omega) (by omega) hv
      have er : (gs.map fun g => stepD ((meB R g M).getD 0 none)) = (gs.map fun g => ((((meB R g M).getD 0 none).getD 0 : Nat) : Int)).map PyData.int := by
        rw [List.map_map]
        refine List.map_congr_left fun g _ => ?_
        obtain ⟨v, hv⟩ := ev g
        simp only [Function.comp, hv]
        rfl
      rw [← hM, e1]
      walk_at "g"
      simp only [(nva e2).1, if_false]
      rw [er, comp_mapf (enc := PyData.int) (b := fun _ => false) (f := PyData.int) (fun k hk => ⟨_, rfl, sat_eq (by
        simp only [wipeF]
        walk_at "g"), fun z => by cases z⟩) (by rw [sz]; simp; omega)]
      rw [ef, sat_ok, List.map_nil, List.append_nil, PD.eq_nilL0]
      walk_at "g"
      rw [sum_ok, cast_sumN, ms]
      walk_at "g"
      simp only [stp, Option.getD_some, (nva e2).2, not_false_eq_true, if_true]
      refine ⟨?_, _, rfl⟩
      rw [show ((l.length + 1 : Nat) : Int) = (l.length : Nat) + 1 by omega, beq_self_eq_true]
theorem stdO_wd {P : Plan} {R : Rob} (hR : RobWf R) (h : PlanWf P) (hl : P.length ≤ 60) {P' : Plan} {s0 : Str} {ns0 : List Nat} (ep : P = P' ++ [(s0, ns0)]) {x : Std} (hx : x.In (.mk s0 (bsOf P ns0)) R) : Wd 2 1000 x.d := by
  have q0 : P[P'.length]? = some (s0, ns0) := by rw [ep]; simp
  have hm := unf_ent h q0
  have mw : (Maze.mk s0 (bsOf P ns0)).Wf := unf_wf h _ (List.mem_of_getElem? hm)
  have lp : P.length = P'.length + 1 := by rw [ep]; simp
  have xl := path_len h q0 hx
  have few := hR.few
  obtain ⟨⟨r, e, d0, d1⟩, s0, s1⟩ := hx
  obtain ⟨a, b⟩ := Maze.at_wf mw e
  have two : r.brs.length ≤ 2 := by cases r with | mk s bs => exact a.two
  exact Wd.t3 (a := 6 * 60 + 3) (b := 4) (c := 4) (pk_wd (Maze.at_path mw e) (by omega)) (Wd.small (by omega)) (Wd.small (by omega))
theorem right_ok {P : Plan} {R : Rob} {n0 : Int} {S : Store} {rest : Store} (D : Deck rest n0 S) (hn : n0 ≤ 700000000) (hR : RobWf R) (hw : WordsOk R) (h : PlanWf P) (hl : P.length ≤ 60) {P' : Plan} {s0 : Str} {ns0 : List Nat} (ep : P = P' ++ [(s0, ns0)]) :
    (F__law_right [.obj 1, .d (planD P), .d (robD R)] S).sat (fun v S' => v = .d (.bool true) ∧ ∃ rest, Deck rest (n0 + 48) S') NoX := by
  have sz : sizeLine = 16777216 := sizeLine_eq
  have R1 := hR.one
  have q0 : P[P'.length]? = some (s0, ns0) := by rw [ep]; simp
  have hm := unf_ent h q0
  have mw : (Maze.mk s0 (bsOf P ns0)).Wf := unf_wf h _ (List.mem_of_getElem? hm)
  have g0 : (gate 0).In (.mk s0 (bsOf P ns0)) R := gate_in (by omega) (by omega)
  have ans := ans_cases hR hw mw
  unfold F__law_right
  walk_at "start"
  rw [m__law_right_E]
  walk_at "g"
  obtain ⟨more, ew⟩ := plan_walk_eq (S := S) hR h (by omega) ep
  rw [ew]
  walk_at "g"
  refine (meets_right_ok hR hw h hl ep).on fun v S1 ⟨e1, m1, e2⟩ => ?_
  subst e1 e2
  walk_at "g"
  obtain ⟨m2, ew⟩ := plan_stand_eq (S := S ++ more ++ m1) hR h (by omega) ep 0
  rw [show (0 : Int) = ((0 : Nat) : Int) from rfl, ew]
  rw [show aft (.mk s0 (bsOf P ns0)) R 0 (gate 0) = some (gate 0) from rfl]
  simp only [stdO]
  have wd0 := stdO_wd hR h hl ep g0
  walk_at "g"
  rw [wd0.repr, show (gate 0).d.shown = Str.ofString "((), 0, 0)" by decide +kernel]
  walk_at "g"
  refine (end_right_ok hR hw h hl ep).on fun v S2 ⟨e1, m3, e2⟩ => ?_
  subst e1 e2
  walk_at "g"
  have D := Deck.more (more := m3) (Deck.more (more := m2) (Deck.more (more := m1) (Deck.more (more := more) D)))
  generalize S ++ more ++ m1 ++ m2 ++ m3 = S at D
  have loop : ∀ {last : Int} {td : PyData} {S : Store} {rest : Store}, Deck rest n0 S → (∀ n : Nat, (n : Int) < last → ∃ y', aft (.mk s0 (bsOf P ns0)) R (n + 1) (gate 0) = some y') →
      (rng1V [SV.d (PyData.int 6)] S).sat (fun a S => (forF (gSet 5) m__law_right_8 a [some (.obj 1), some (.d (planD P)), some (.d (robD R)), some (.d td), some (.d (.int last)), none, none, none] S).sat
        { nx := fun fr S => ∃ rest, Deck rest (n0 + 48) S, bk := no2, ct := no2, rt := fun v S' => v = SV.d (PyData.bool true) ∧ ∃ rest, Deck rest (n0 + 48) S', ex := NoX }) NoX := fun {last td S rest} D hgo => by
    rw [rng1_ok (by decide) (by decide)]
    walk_at "g"
    refine ssat_rng (fun j fr S => ∃ (rest : Store) (x5 x6 x7 : Option SV), fr = [some (.obj 1), some (.d (planD P)), some (.d (robD R)), some (.d td), some (.d (.int last)), x5, x6, x7] ∧ Deck rest (n0 + 8 * j) S) ⟨_, _, _, _, rfl, by simpa using D⟩ (fun j fr S hj ⟨rest, x5, x6, x7, e, D⟩ => ?_) fun fr S ⟨rest, x5, x6, x7, e, D⟩ => ⟨rest, D.mono (by omega)⟩
    subst e
    refine ⟨_, rfl, ?_⟩
    walk_at "g"
    by_cases hl0 : 0 < last
    · rw [if_pos hl0]
      refine (far_ok D (by omega) hl0).on fun v S ⟨n, e, nl, D⟩ => ?_
      subst e
      walk_at "g"
      obtain ⟨y', hy'⟩ := hgo n nl
      obtain ⟨y, hy, hs⟩ : ∃ y, aft (.mk s0 (bsOf P ns0)) R n (gate 0) = some y ∧ (wStep (.mk s0 (bsOf P ns0)) R y).2 = .inr y' := by
        rw [aft_add] at hy'
        cases hy : aft (.mk s0 (bsOf P ns0)) R n (gate 0) with
        | none => rw [hy] at hy'; cases hy'
        | some y =>
          rw [hy, Option.bind_some] at hy'
          refine ⟨y, rfl, ?_⟩
          cases hs : (wStep (.mk s0 (bsOf P ns0)) R y).2 with
          | inl r => rw [aft_inl hs] at hy'; cases hy'
          | inr y2 => rw [aft_inr hs] at hy'; cases hy'; rfl
      have yin := aft_mem hR g0 hy
      have yin' := aft_mem hR g0 hy'
      have yl := path_len h q0 yin
      have lp : P.length = P'.length + 1 := by rw [ep]; simp
      obtain ⟨m4, ew⟩ := plan_stand_eq (S := S) hR h (by omega) ep n
      rw [ew, hy]
      walk_at "g"
      simp only [stdO]
      rw [law_next_eq hR h (by omega) ep yin (by omega), hs]
      walk_at "g"
      rw [show ((n : Nat) : Int) + 1 = ((n + 1 : Nat) : Int) by omega]
      obtain ⟨m5, ew⟩ := plan_stand_eq (S := S ++ m4) hR h (by omega) ep (n + 1)
      rw [ew, hy']
      walk_at "g"
      simp only [stdO, nextD]
      have wd := stdO_wd hR h hl ep yin'
      rw [wd.repr]
      walk_at "g"
      rw [wd.repr]
      walk_at "g"
      exact ⟨_, _, _, _, rfl, (Deck.more (Deck.more D)).mono (by omega)⟩
    · rw [if_neg hl0]
      exact ⟨_, _, _, _, rfl, D.mono (by omega)⟩
  rcases ans with ⟨e1, e2⟩ | ⟨l, z, k, e1, e2, wy, wz⟩ | ⟨l, z, v, e1, e2, e3, wy, wz⟩
  · rw [e1]
    walk_at "g"
    refine ⟨by decide, loop D fun n hn => ever_some (st := 0) hR mw (by omega) (by omega) e2 (n + 1)⟩
  · rw [e1]
    walk_at "g"
    exact loop D fun n hn => ⟨_, by rw [aft_at wy (show n + 1 < (l ++ [z]).length by simp; omega), List.getElem?_eq_getElem (by simp; omega)]⟩
  · rw [e1]
    walk_at "g"
    simp only [(nva e2).2, if_false]
    exact loop D fun n hn => ⟨_, by rw [aft_at wy (show n + 1 < (l ++ [z]).length by simp; omega), List.getElem?_eq_getElem (by simp; omega)]⟩
theorem law_true (ns : List Int) (h : ns.length ≤ 63) : ∃ S, F_law [.scr ns] [] = .ok (.d (.bool true)) S := by
  have sz : sizeLine = 16777216 := sizeLine_eq
  obtain ⟨S0, e0, D0⟩ := deck_ok ns h
  suffices q : (F_law [.scr ns] []).sat (fun v S => v = .d (.bool true)) NoX by
    obtain ⟨v, S, e, q⟩ := q.ex
    exact ⟨S, by rw [e, q]⟩
  unfold F_law
  walk_at "start"
  simp only [m_law, m_law_1]
  walk_at "g0"
  rw [e0]
  walk_at "g0"
  simp only [m_law_2]
  walk_at "g0"
  rw [rng1_ok (by decide) (by decide)]
  walk_at "g0"
  refine ssat_rng (fun j fr S => ∃ rest x2 x3 x4 x5, fr = [some (.scr ns), some (.obj 1), x2, x3, x4, x5] ∧ Deck rest (4000 * j) S) ⟨_, _, _, _, _, rfl, by simpa using D0⟩ (fun j fr S hj ⟨rest, x2, x3, x4, x5, e, D⟩ => ?_) fun fr S ⟨rest, x2, x3, x4, x5, e, D⟩ => ?_
  · subst e
    refine ⟨_, rfl, ?_⟩
    simp only [m_law_3]
    walk_at "g0"
    refine (draw_ok D (by omega) (by decide) (by decide)).on fun v S ⟨q, e, q0, q1, D⟩ => ?_
    subst e
    walk_at "g0"
    refine (signs_ok2 D (by omega) (by omega) (by omega)).on fun v S ⟨ts, e, hl, ht, D⟩ => ?_
    subst e
    have tne : ts ≠ [] := fun z => by rw [z] at hl; simp at hl; omega
    simp only [m_law_4]
    walk_at "g0"
    refine (draw_ok D (by omega) (by decide) (by decide)).on fun v S ⟨q2, e, q20, q21, D⟩ => ?_
    subst e
    walk_at "g0"
    refine (plan_ok D (by omega) (by omega) (by omega) ht tne (by omega)).on fun v S ⟨P, e, hP, lP, D⟩ => ?_
    subst e
    have p60 : P.length ≤ 60 := by omega
    have pne : P ≠ [] := fun z => by rw [z] at lP; simp at lP; omega
    obtain ⟨P', en, ep⟩ : ∃ P' e, P = P' ++ [e] := ⟨P.dropLast, P.getLast pne, (List.dropLast_concat_getLast pne).symm⟩
    obtain ⟨s0, ns0⟩ := en
    simp only [m_law_5]
    walk_at "g0"
    simp only [eLc]
    walk_at "g0"
    rw [rng1_ok (by decide) (by decide)]
    walk_at "g0"
    rw [show rngL 0 3 = ((List.range 3).map fun i : Nat => PyData.int (i : Nat)).map .d from rng_map 3]
    refine sat_each (enc := fun i : Nat => PyData.int (i : Nat)) (fun done S acc => (∃ rest, Deck rest (4000 * j + 600 + 300 * done.length) S) ∧ acc = List.replicate done.length (.bool true)) ⟨⟨_, D.mono (by simp; omega)⟩, rfl⟩ (fun done k more S acc e al ⟨⟨rest, D⟩, wa⟩ => ⟨_, rfl, ?_⟩) (by simp) fun S acc al ⟨⟨rest, D⟩, wa⟩ => ?_
    · have dl : done.length < 3 := by
        have := congrArg List.length e
        simp at this
        omega
      simp only [wipeF]
      walk_at "g"
      have hsg : ∀ x ∈ ts.map PyData.str, ∃ s, x = PyData.str s ∧ Tx 20 s := fun x hx => by
        obtain ⟨s, hs, rfl⟩ := List.mem_map.mp hx
        exact ⟨s, rfl, (ht s hs).tx.mono (by decide)⟩
      rw [show ([PyData.str "aha"] : List PyData) = (["aha"] : List Str).map PyData.str from rfl]
      refine (robot_ok D (by omega) (by decide) (by decide) (by simpa using tne) (by simp; omega) (by simp) (by simp)).on fun v S ⟨ds, e, d1, d4, hd, D⟩ => ?_
      subst e
      obtain ⟨R, wf, eR, lR⟩ := rob_of hd d1 (by omega) hsg (fun x hx => by
        obtain ⟨s, hs, rfl⟩ := List.mem_map.mp (show x ∈ (["aha"] : List Str).map PyData.str from hx)
        simp only [List.mem_cons, List.not_mem_nil, or_false] at hs
        subst hs
        exact ⟨_, rfl, Tx.lit⟩)
      rw [eR]
      have wo : WordsOk R := rob_words hd eR
      refine (right_ok D (by omega) wf wo hP p60 ep).on fun v S ⟨e, rest, D⟩ => ?_
      subst e
      refine ⟨_, rfl, ⟨_, D.mono (by omega)⟩, ?_⟩
      rw [wa, ← List.replicate_succ', List.replicate_succ]
    · have e3 : acc = [.bool true, .bool true, .bool true] := wa
      subst e3
      rw [show ∀ S, allV [.d (.list [.bool true, .bool true, .bool true])] S = .ok (.d (.bool true)) S from fun _ => rfl]
      walk_at "g"
      exact ⟨_, _, _, _, _, rfl, D.mono (by simp; omega)⟩
  · subst e
    simp only [m_law_7]
    walk_at "g0"
end Wk
open PySem PySem.W PyProof.Rows
set_option maxRecDepth 100000 in
set_option maxHeartbeats 0 in
theorem PySem.Challenge.cw_anymaze_k51_whole_great_plans_by_steps_holds : PySem.Challenge.rw_anymaze_k51_whole_great_plans_by_steps.Holds := by
  w_on; o_law; k_head; (case hw => w_witness2)
  k_fill
  refine Wk.walk Wk.law_true rfl (by decide +kernel) (fun w h Y => PySem.W.kIn_of Y) ?F
  case F =>
    intro w mg fa h KX G hmg
    refine' Wk.at_mk KX G hmg ?cn_Course ?cg_Course ?ch_Course ?co_Course ?cs_Course ?cq_Course ?ck_Course ?cx_Course_plan ?cx_Course_results ?cx_Course_legs ?cx_Course_steps ?a1 ?l1 ?c1 ?k1 ?a2 ?l2 ?c2 ?k2 ?a3 ?l3 ?c3 ?k3 ?a4 ?l4 ?c4 ?k4 ?a5 ?i5 ?l5 ?c5 ?k5 ?a6 ?i6 ?l6 ?c6 ?k6 ?a7 ?i7 ?l7 ?c7 ?k7 ?a8 ?i8 ?l8 ?c8 ?k8 ?a9 ?i9 ?l9 ?c9 ?k9 ?a10 ?i10 ?l10 ?c10 ?k10 ?a11 ?i11 ?l11 ?c11 ?k11 ?a12 ?i12 ?l12 ?c12 ?k12 ?a13 ?l13 ?c13 ?k13 ?a14 ?l14 ?c14 ?k14 ?a15 ?l15 ?c15 ?k15 ?a16 ?l16 ?c16 ?k16 ?a17 ?l17 ?c17 ?k17 ?a18 ?l18 ?c18 ?k18 ?a19 ?l19 ?c19 ?k19 ?a20 ?l20 ?c20 ?k20 ?a21 ?l21 ?c21 ?k21 ?a22 ?l22 ?c22 ?k22 ?a23 ?l23 ?c23 ?k23 ?a24 ?l24 ?c24 ?k24 ?a25 ?l25 ?c25 ?k25 ?a26 ?l26 ?c26 ?k26 ?a27 ?l27 ?c27 ?k27 ?z_abs ?z_all ?z_bool ?z_enumerate ?z_int ?z_isinstance ?z_len ?z_range ?z_repr ?z_set ?z_sorted ?z_sum ?z_tuple ?v_EVER ?v_LOST ?v_OUT
    (case cn_Course => k_is)
    (case cg_Course => k_is)
    (case ch_Course => k_is)
    (case co_Course => k_is)
    (case cs_Course => k_is)
    (case cq_Course => k_is)
    (case ck_Course => k_is)
    (case cx_Course_plan => k_is)
    (case cx_Course_results => k_is)
    (case cx_Course_legs => k_is)
    (case cx_Course_steps => k_is)
    (case a1 => k_is)
    (case l1 => k_is)
    (case c1 => k_is)
    (case k1 => k_is)
    (case a2 => k_is)
    (case l2 => k_is)
    (case c2 => k_is)
    (case k2 => k_is)
    (case a3 => k_is)
    (case l3 => k_is)
    (case c3 => k_is)
    (case k3 => k_is)
    (case a4 => k_is)
    (case l4 => k_is)
    (case c4 => k_is)
    (case k4 => k_is)
    (case a5 => k_is)
    (case i5 => k_is)
    (case l5 => k_is)
    (case c5 => k_is)
    (case k5 => k_is)
    (case a6 => k_is)
    (case i6 => k_is)
    (case l6 => k_is)
    (case c6 => k_is)
    (case k6 => k_is)
    (case a7 => k_is)
    (case i7 => k_is)
    (case l7 => k_is)
    (case c7 => k_is)
    (case k7 => k_is)
    (case a8 => k_is)
    (case i8 => k_is)
    (case l8 => k_is)
    (case c8 => k_is)
    (case k8 => k_is)
    (case a9 => k_is)
    (case i9 => k_is)
    (case l9 => k_is)
    (case c9 => k_is)
    (case k9 => k_is)
    (case a10 => k_is)
    (case i10 => k_is)
    (case l10 => k_is)
    (case c10 => k_is)
    (case k10 => k_is)
    (case a11 => k_is)
    (case i11 => k_is)
    (case l11 => k_is)
    (case c11 => k_is)
    (case k11 => k_is)
    (case a12 => k_is)
    (case i12 => k_is)
    (case l12 => k_is)
    (case c12 => k_is)
    (case k12 => k_is)
    (case a13 => k_is)
    (case l13 => k_is)
    (case c13 => k_is)
    (case k13 => k_is)
    (case a14 => k_is)
    (case l14 => k_is)
    (case c14 => k_is)
    (case k14 => k_is)
    (case a15 => k_is)
    (case l15 => k_is)
    (case c15 => k_is)
    (case k15 => k_is)
    (case a16 => k_is)
    (case l16 => k_is)
    (case c16 => k_is)
    (case k16 => k_is)
    (case a17 => k_is)
    (case l17 => k_is)
    (case c17 => k_is)
    (case k17 => k_is)
    (case a18 => k_is)
    (case l18 => k_is)
    (case c18 => k_is)
    (case k18 => k_is)
    (case a19 => k_is)
    (case l19 => k_is)
    (case c19 => k_is)
    (case k19 => k_is)
    (case a20 => k_is)
    (case l20 => k_is)
    (case c20 => k_is)
    (case k20 => k_is)
    (case a21 => k_is)
    (case l21 => k_is)
    (case c21 => k_is)
    (case k21 => k_is)
    (case a22 => k_is)
    (case l22 => k_is)
    (case c22 => k_is)
    (case k22 => k_is)
    (case a23 => k_is)
    (case l23 => k_is)
    (case c23 => k_is)
    (case k23 => k_is)
    (case a24 => k_is)
    (case l24 => k_is)
    (case c24 => k_is)
    (case k24 => k_is)
    (case a25 => k_is)
    (case l25 => k_is)
    (case c25 => k_is)
    (case k25 => k_is)
    (case a26 => k_is)
    (case l26 => k_is)
    (case c26 => k_is)
    (case k26 => k_is)
    (case a27 => k_is)
    (case l27 => k_is)
    (case c27 => k_is)
    (case k27 => k_is)
    (case z_abs => k_is)
    (case z_all => k_is)
    (case z_bool => k_is)
    (case z_enumerate => k_is)
    (case z_int => k_is)
    (case z_isinstance => k_is)
    (case z_len => k_is)
    (case z_range => k_is)
    (case z_repr => k_is)
    (case z_set => k_is)
    (case z_sorted => k_is)
    (case z_sum => k_is)
    (case z_tuple => k_is)
    (case v_EVER => k_is)
    (case v_LOST => k_is)
    (case v_OUT => k_is)
