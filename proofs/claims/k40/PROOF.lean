import PyProof.Rows.All
import Wide.All
import OpenK.AllK
import Wide.FinOn
import HandS.ForMost
import HandS.Exc
import HandS.ExcOwn
import HandS.TryOnly
import HandS.WordsExc
import KE.KeyNested
import PyProof.P3Eq
import PyProof.P3In
import PyProof.NeData
import PyProof.ReprRoads
import HandS.TupAny
import HandS.TupMul
import HandS.Deep
import KE.DataIsa
import HandS.Conv
import KE.LtSeq
import HandS.RaiseMore
import HandS.Flow
import HandS.Zip
import KE.GoesNew
import HandS.RevRange
import HandS.Rev
import HandS.Style
import HandS.CallSlots
import KE.GoesMore
import KE.GoesEnum
import HandS.Text
import HandS.FStr
import HandS.Ends
import HandS.List
import HandS.Dict
import HandS.TupSets
import KE.SortData
import HandS.SetFor
import KE.KRevSl
import KE.KDictList
import HandS.TupLen
import HandS.DictComp
import PyProof.FitsInt
import PyProof.StrLaws
import PyProof.StrLawsRepr
import KE.KDictZip
import KE.KItemsList
import HandS.ListItems
import KE.KIntText
import HandS.SetTxt0
import PyProof.SetRoads
import HandS.ExcIs
import HandS.ExcField
import PySem.Challenge.RW_anymaze_k40_whole_walks_renamed
set_option Elab.async false
set_option linter.all false
set_option maxRecDepth 100000
set_option autoImplicit false
namespace PD
open PySem PySem.Spec PyProof.Rows L2
structure Mo where
  w : World
  K : PySem.W.Frag
  mg : Str → Option Value
inductive SV where
  | d (x : PyData)
  | obj (r : Nat)
  | scr (ns : List Int)
inductive Ob where
  | lst (xs : List SV)
  | ins (C : Str) (fs : List (Str × SV))
abbrev Store := List Ob
structure Exc where
  cls : Str
  flds : Option (List (Str × SV))
inductive Rs (α : Type) where
  | ok (a : α) (S : Store)
  | exc (x : Exc) (S : Store)
  | bad
def Rs.bind {α β : Type} : Rs α → (α → Store → Rs β) → Rs β
  | .ok a S, f => f a S
  | .exc x S, _ => .exc x S
  | .bad, _ => .bad
abbrev Fr := List (Option SV)
abbrev EM := Fr → Store → Rs SV
abbrev TMt := Fr → Store → Rs Bool
abbrev AM := Fr → Store → Rs (List SV)
mutual
def toKey : PyData → Option NestedKey
  | .none => some .none
  | .int i => some (.num i)
  | .str x => some (.text x)
  | .tuple xs => (toKeys xs).map .tup
  | .bool _ | .list _ | .dict _ => none
def toKeys : List PyData → Option (List NestedKey)
  | [] => some []
  | x :: xs => (toKey x).bind fun k => (toKeys xs).map (k :: ·)
end
def FzL (K : PySem.W.Frag) (F : Addr → Prop) (H : Hp) (a : Addr) (xs : List V) : Prop :=
  (F a ∧ H a = some (.lst xs)) ∨ (∃ o, H a = some (.frz o (.lst xs))) ∨
    ∃ (o : Obj) (its : Array Value) (n : Nat), K.lookup a = some o ∧ o.cls = .type "list" ∧ o.dict = none ∧ o.data = .seq its n ∧ its.size ≤ sizeLine ∧ Vals xs its.toList
theorem FzL.sq {K : PySem.W.Frag} {F : Addr → Prop} {H : Hp} {a : Addr} {xs : List V} (h : FzL K F H a xs) : SqL K H a xs := by
  rcases h with ⟨_, h⟩ | h | h
  · exact .inl (.inl h)
  · exact .inl (.inr h)
  · exact .inr h
def dictObj (w : World) (a : Addr) (es : List (NestedKey × Addr × V)) (o : Obj) (h : Heap) : Prop :=
  ∃ ds ep, h.get? a = some o ∧ o.ExactDict ∧ o.data = .dict ds ep ∧ Paired (fun (p : NestedKey × Addr × V) (e : DictEntry) => e.hash = p.1.hash w ∧ e.key = .ref p.2.1 ∧ RelV p.2.2 e.val) es ds.toList ∧ (es.map (·.1)).Nodup ∧ sysModules ≠ a
def KeysAre (ds : List (PyData × PyData)) (es : List (NestedKey × Addr × V)) : Prop := Paired (fun (p : PyData × PyData) (e : NestedKey × Addr × V) => toKey p.1 = some e.1 ∧ e.1.depth ≤ 8) ds es
mutual
inductive Rp (M : Mo) (F : Addr → Prop) (H : Hp) : PyData → V → Prop
  | non : Rp M F H .none .non
  | bl (b : Bool) : Rp M F H (.bool b) (.bl b)
  | int (i : Int) : Rp M F H (.int i) (.int i)
  | str (x : Str) : Rp M F H (.str x) (.str x)
  | lst {a : Addr} {xs : List V} {ds : List PyData} : F a → H a = some (.lst xs) → RpAll M F H ds xs → Rp M F H (.list ds) (.ref a)
  | tup {a : Addr} {xs : List V} {ds : List PyData} : SqT M.K H a xs → RpAll M F H ds xs → Rp M F H (.tuple ds) (.ref a)
  | dK {a : Addr} {kvs : List (Key × V)} {ds : List (PyData × PyData)} : F a → H a = some (.dK kvs) → RpAll M F H (ds.map (·.1)) (kvs.map fun p => kV p.1) → RpAll M F H (ds.map (·.2)) (kvs.map (·.2)) → Rp M F H (.dict ds) (.ref a)
  | dN {a : Addr} {es : List (NestedKey × Addr × V)} {o : Obj} {ds : List (PyData × PyData)} : F a → H a = some (.ext (dictObj M.w a es o)) → KeysAre ds es → RpAll M F H (ds.map (·.1)) (es.map fun e => V.ref e.2.1) → RpAll M F H (ds.map (·.2)) (es.map (·.2.2)) → Rp M F H (.dict ds) (.ref a)
inductive RpAll (M : Mo) (F : Addr → Prop) (H : Hp) : List PyData → List V → Prop
  | nil : RpAll M F H [] []
  | cons {d : PyData} {ds : List PyData} {v : V} {vs : List V} : Rp M F H d v → RpAll M F H ds vs → RpAll M F H (d :: ds) (v :: vs)
end
section
variable {M : Mo} {F F' : Addr → Prop} {H H' : Hp}
theorem RpAll.length : ∀ {ds : List PyData} {vs : List V}, RpAll M F H ds vs → ds.length = vs.length
  | _, _, .nil => rfl
  | _, _, .cons _ t => by simp [RpAll.length t]
theorem RpAll.get : ∀ {ds : List PyData} {vs : List V} {i : Nat} {d : PyData}, RpAll M F H ds vs → ds[i]? = some d → ∃ v, vs[i]? = some v ∧ Rp M F H d v
  | _, _, i, _, .nil, e => by simp at e
  | _, _, 0, d, .cons r _, e => by
    simp at e; subst e; exact ⟨_, by simp, r⟩
  | _, _, i + 1, d, .cons _ t, e => by
    obtain ⟨v, h1, h2⟩ := RpAll.get (i := i) t (by simpa using e)
    exact ⟨v, by simpa using h1, h2⟩
theorem RpAll.append : ∀ {ds es : List PyData} {vs us : List V}, RpAll M F H ds vs → RpAll M F H es us → RpAll M F H (ds ++ es) (vs ++ us)
  | _, _, _, _, .nil, q => q
  | _, _, _, _, .cons r t, q => .cons r (RpAll.append t q)
structure Keeps (F F' : Addr → Prop) (H H' : Hp) : Prop where
  sub : ∀ a, F a → F' a
  frozen : ∀ a o, F a → H a = some o → H' a = some o
  tup : ∀ a xs, H a = some (.tup xs) → H' a = some (.tup xs)
  frz : ∀ a o u, H a = some (.frz o u) → H' a = some (.frz o u)
theorem Keeps.sqT (k : Keeps F F' H H') {K : PySem.W.Frag} {a : Addr} {xs : List V} (h : SqT K H a xs) : SqT K H' a xs := by
  rcases h with (h | ⟨o, h⟩) | h
  · exact .inl (.inl (k.tup _ _ h))
  · exact .inl (.inr ⟨o, k.frz _ _ _ h⟩)
  · exact .inr h
theorem Keeps.fzL (k : Keeps F F' H H') {K : PySem.W.Frag} {a : Addr} {xs : List V} (h : FzL K F H a xs) : FzL K F' H' a xs := by
  rcases h with ⟨f, h⟩ | ⟨o, h⟩ | h
  · exact .inl ⟨k.sub _ f, k.frozen _ _ f h⟩
  · exact .inr (.inl ⟨o, k.frz _ _ _ h⟩)
  · exact .inr (.inr h)
mutual
theorem Rp.keep (k : Keeps F F' H H') : ∀ {d : PyData} {v : V}, Rp M F H d v → Rp M F' H' d v
  | _, _, .non => .non
  | _, _, .bl b => .bl b
  | _, _, .int i => .int i
  | _, _, .str x => .str x
  | _, _, .lst f h r => .lst (k.sub _ f) (k.frozen _ _ f h) (RpAll.keep k r)
  | _, _, .tup h r => .tup (k.sqT h) (RpAll.keep k r)
  | _, _, .dK f h r s => .dK (k.sub _ f) (k.frozen _ _ f h) (RpAll.keep k r) (RpAll.keep k s)
  | _, _, .dN f h z r s => .dN (k.sub _ f) (k.frozen _ _ f h) z (RpAll.keep k r) (RpAll.keep k s)
theorem RpAll.keep (k : Keeps F F' H H') : ∀ {ds : List PyData} {vs : List V}, RpAll M F H ds vs → RpAll M F' H' ds vs
  | _, _, .nil => .nil
  | _, _, .cons r t => .cons (Rp.keep k r) (RpAll.keep k t)
end
end
structure Gh where
  F : Addr → Prop
  rho : List Addr
  H0 : Hp
  F0 : Addr → Prop
  rho0 : List Addr
def RpS (M : Mo) (G : Gh) (H : Hp) : SV → V → Prop
  | .d x, v => Rp M G.F H x v
  | .obj r, v => ∃ a, G.rho[r]? = some a ∧ v = .ref a
  | .scr ns, v => ∃ a, v = .ref a ∧ FzL M.K G.F H a (ns.map V.int)
abbrev RpSs (M : Mo) (G : Gh) (H : Hp) : List SV → List V → Prop := Paired (RpS M G H)
def RpF (M : Mo) (G : Gh) (H : Hp) : List (Str × SV) → List (Str × V) → Prop := Paired fun p q => p.1 = q.1 ∧ RpS M G H p.2 q.2
def ObR (M : Mo) (G : Gh) (H : Hp) : Ob → Addr → Prop
  | .lst ds, a => ∃ xs, H a = some (.lst xs) ∧ RpSs M G H ds xs
  | .ins C fs, a => ∃ ca dx vs, M.mg C = some (.ref ca) ∧ H a = some (.ins ca dx vs) ∧ RpF M G H fs vs
def FzOk (M : Mo) (H : Hp) (a : Addr) : Prop := (∃ xs, H a = some (.lst xs)) ∨ (∃ kvs, H a = some (.dK kvs)) ∨ ∃ es o, H a = some (.ext (dictObj M.w a es o))
structure Base (M : Mo) (H : Hp) (S : Store) (G : Gh) : Prop where
  len : S.length = G.rho.length
  ob : ∀ (r : Nat) (o : Ob) (a : Addr), S[r]? = some o → G.rho[r]? = some a → ObR M G H o a
  nd : G.rho.Nodup
  frz : ∀ a, G.F a → a ∉ G.rho ∧ FzOk M H a
  keep0 : ∀ a o, G.H0 a = some o → a ∉ G.rho0 → H a = some o
  sub0 : ∀ a, G.F0 a → G.F a
  newF : ∀ a, G.F a → G.F0 a ∨ G.H0 a = none
  pre : ∃ more, G.rho = G.rho0 ++ more
  newR : ∀ a, a ∈ G.rho → a ∈ G.rho0 ∨ G.H0 a = none
structure Stp (G : Gh) (H : Hp) (G' : Gh) (H' : Hp) : Prop where
  h0 : G'.H0 = G.H0
  f0 : G'.F0 = G.F0
  r0 : G'.rho0 = G.rho0
  sub : ∀ a, G.F a → G'.F a
  newF : ∀ a, G'.F a → G.F a ∨ H a = none
  pre : ∃ more, G'.rho = G.rho ++ more
  newR : ∀ a, a ∈ G'.rho → a ∈ G.rho ∨ H a = none
  keep : ∀ a o, H a = some o → a ∉ G.rho → H' a = some o
  there : ∀ a, H' a = none → H a = none
theorem Stp.refl {G : Gh} {H : Hp} : Stp G H G H := ⟨rfl, rfl, rfl, fun _ h => h, fun _ h => .inl h, ⟨[], by simp⟩, fun _ h => .inl h, fun _ _ h _ => h, fun _ h => h⟩
theorem Stp.trans {G G1 G2 : Gh} {H H1 H2 : Hp} (a : Stp G H G1 H1) (b : Stp G1 H1 G2 H2) : Stp G H G2 H2 where
  h0 := b.h0.trans a.h0
  f0 := b.f0.trans a.f0
  r0 := b.r0.trans a.r0
  sub := fun x h => b.sub x (a.sub x h)
  newF := fun x h => (b.newF x h).elim (fun q => a.newF x q) fun q => .inr (a.there x q)
  pre := by
    obtain ⟨m1, e1⟩ := a.pre
    obtain ⟨m2, e2⟩ := b.pre
    exact ⟨m1 ++ m2, by rw [e2, e1, List.append_assoc]⟩
  newR := fun x h => (b.newR x h).elim (fun q => a.newR x q) fun q => .inr (a.there x q)
  keep := fun x o h n => b.keep x o (a.keep x o h n) fun hm => (a.newR x hm).elim (fun q => n q) fun q => by rw [q] at h; cases h
  there := fun x h => a.there x (b.there x h)
section
variable {M : Mo} {G G' : Gh} {H H' : Hp} {S S' : Store}
theorem Base.rho_get (B : Base M H S G) {a : Addr} (h : a ∈ G.rho) : ∃ o, ObR M G H o a := by
  obtain ⟨r, hr, e⟩ := List.mem_iff_getElem.mp h
  have hs : r < S.length := by rw [B.len]; exact hr
  exact ⟨S[r], B.ob r S[r] a (List.getElem?_eq_getElem hs) (by rw [List.getElem?_eq_getElem hr, e])⟩
theorem ObR.some {o : Ob} {a : Addr} (h : ObR M G H o a) : (∃ xs, H a = some (.lst xs)) ∨ ∃ ca dx vs, H a = some (.ins ca dx vs) := by
  cases o with
  | lst ds => obtain ⟨xs, e, _⟩ := h; exact .inl ⟨xs, e⟩
  | ins C fs => obtain ⟨ca, dx, vs, _, e, _⟩ := h; exact .inr ⟨ca, dx, vs, e⟩
theorem Base.no_tup (B : Base M H S G) {a : Addr} {xs : List V} (h : H a = some (.tup xs)) : a ∉ G.rho := fun hm => by
  obtain ⟨o, q⟩ := B.rho_get hm
  rcases q.some with ⟨ys, e⟩ | ⟨_, _, _, e⟩ <;> (rw [e] at h; cases h)
theorem Base.no_frz (B : Base M H S G) {a : Addr} {o : Obj} {u : HO} (h : H a = some (.frz o u)) : a ∉ G.rho := fun hm => by
  obtain ⟨o, q⟩ := B.rho_get hm
  rcases q.some with ⟨ys, e⟩ | ⟨_, _, _, e⟩ <;> (rw [e] at h; cases h)
theorem Base.keeps (B : Base M H S G) (st : Stp G H G' H') : Keeps G.F G'.F H H' where
  sub := st.sub
  frozen := fun a o f h => st.keep a o h (B.frz a f).1
  tup := fun a xs h => st.keep a _ h (B.no_tup h)
  frz := fun a o u h => st.keep a _ h (B.no_frz h)
theorem RpS.keep (k : Keeps G.F G'.F H H') (p : ∃ more, G'.rho = G.rho ++ more) : ∀ {x : SV} {v : V}, RpS M G H x v → RpS M G' H' x v
  | .d x, _, h => Rp.keep k h
  | .obj r, _, ⟨a, e, q⟩ => by
    obtain ⟨more, hm⟩ := p
    refine ⟨a, ?_, q⟩
    rw [hm, List.getElem?_append_left (List.getElem?_eq_some_iff.mp e).1]
    exact e
  | .scr ns, _, ⟨a, e, q⟩ => ⟨a, e, k.fzL q⟩
theorem RpSs.keep (k : Keeps G.F G'.F H H') (p : ∃ more, G'.rho = G.rho ++ more) {xs : List SV} {vs : List V} (h : RpSs M G H xs vs) : RpSs M G' H' xs vs := Paired.mapP h fun _ _ q => RpS.keep k p q
theorem RpF.keep (k : Keeps G.F G'.F H H') (p : ∃ more, G'.rho = G.rho ++ more) {xs : List (Str × SV)} {vs : List (Str × V)} (h : RpF M G H xs vs) : RpF M G' H' xs vs := Paired.mapP h fun _ _ q => ⟨q.1, RpS.keep k p q.2⟩
theorem Base.rps (B : Base M H S G) (st : Stp G H G' H') {x : SV} {v : V} (h : RpS M G H x v) : RpS M G' H' x v := RpS.keep (B.keeps st) st.pre h
theorem Base.rpss (B : Base M H S G) (st : Stp G H G' H') {x : List SV} {v : List V} (h : RpSs M G H x v) : RpSs M G' H' x v := RpSs.keep (B.keeps st) st.pre h
end
def Cont (M : Mo) (F : Addr → Prop) (H : Hp) (a : Addr) (v : SV) : Prop :=
  (∃ ds xs, v = .d (.list ds) ∧ H a = some (.lst xs) ∧ RpAll M F H ds xs) ∨
  (∃ ds kvs, v = .d (.dict ds) ∧ H a = some (.dK kvs) ∧ RpAll M F H (ds.map (·.1)) (kvs.map fun p => kV p.1) ∧ RpAll M F H (ds.map (·.2)) (kvs.map (·.2))) ∨
  (∃ ds es o, v = .d (.dict ds) ∧ H a = some (.ext (dictObj M.w a es o)) ∧ KeysAre ds es ∧ RpAll M F H (ds.map (·.1)) (es.map fun e => V.ref e.2.1) ∧ RpAll M F H (ds.map (·.2)) (es.map (·.2.2)))
def OwnR (M : Mo) (G : Gh) (H : Hp) (v : SV) (u : V) : Prop := ∃ a, u = .ref a ∧ ¬ G.F a ∧ a ∉ G.rho ∧ G.H0 a = none ∧ Cont M G.F H a v
abbrev Own := List Bool
def Own.has (O : Own) (i : Nat) : Prop := O[i]? = some true
instance (O : Own) (i : Nat) : Decidable (O.has i) := inferInstanceAs (Decidable (O[i]? = some true))
structure Rel (M : Mo) (O : Own) (σ : L2.St) (H : Hp) (fr : Fr) (S : Store) (G : Gh) : Prop where
  base : Base M H S G
  len : fr.length = σ.length
  slot : ∀ (i : Nat) (v : SV), fr[i]? = some (some v) → ∃ u, σ[i]? = some (some u) ∧ (O.has i → OwnR M G H v u) ∧ (¬ O.has i → RpS M G H v u)
  own : ∀ (i j : Nat) (v w : SV) (a : Addr), O.has i → O.has j → fr[i]? = some (some v) → fr[j]? = some (some w) → σ[i]? = some (some (V.ref a)) → σ[j]? = some (some (V.ref a)) → i = j
section
variable {M : Mo} {G G' : Gh} {H H' : Hp} {S S' : Store} {O : Own} {σ : L2.St} {fr : Fr}
theorem Cont.there {F : Addr → Prop} {a : Addr} {v : SV} (h : Cont M F H a v) : ∃ o, H a = some o ∧ FzOk M H a := by
  rcases h with ⟨_, _, _, q, _⟩ | ⟨_, _, _, q, _⟩ | ⟨_, _, _, _, q, _⟩
  · exact ⟨_, q, .inl ⟨_, q⟩⟩
  · exact ⟨_, q, .inr (.inl ⟨_, q⟩)⟩
  · exact ⟨_, q, .inr (.inr ⟨_, _, q⟩)⟩
theorem Cont.keep {F F' : Addr → Prop} {a : Addr} {v : SV} (k : Keeps F F' H H') (ha : ∀ o, H a = some o → H' a = some o) (h : Cont M F H a v) : Cont M F' H' a v := by
  rcases h with ⟨ds, xs, e1, q, r⟩ | ⟨ds, kvs, e1, q, r, r'⟩ | ⟨ds, es, o, e1, q, z, r, r'⟩
  · exact .inl ⟨ds, xs, e1, ha _ q, RpAll.keep k r⟩
  · exact .inr (.inl ⟨ds, kvs, e1, ha _ q, RpAll.keep k r, RpAll.keep k r'⟩)
  · exact .inr (.inr ⟨ds, es, o, e1, ha _ q, z, RpAll.keep k r, RpAll.keep k r'⟩)
theorem Cont.rp {F : Addr → Prop} {a : Addr} {x : PyData} (f : F a) (h : Cont M F H a (.d x)) : Rp M F H x (.ref a) := by
  rcases h with ⟨ds, xs, e1, q, r⟩ | ⟨ds, kvs, e1, q, r, r'⟩ | ⟨ds, es, o, e1, q, z, r, r'⟩
  · cases e1; exact .lst f q r
  · cases e1; exact .dK f q r r'
  · cases e1; exact .dN f q z r r'
theorem Cont.data {F : Addr → Prop} {a : Addr} {v : SV} (h : Cont M F H a v) : ∃ x, v = .d x := by
  rcases h with ⟨_, _, e, _⟩ | ⟨_, _, e, _⟩ | ⟨_, _, _, e, _⟩ <;> exact ⟨_, e⟩
theorem OwnR.step {v : SV} {u : V} (B : Base M H S G) (st : Stp G H G' H') (h : OwnR M G H v u) : OwnR M G' H' v u := by
  obtain ⟨a, e, nf, nr, h0, q⟩ := h
  obtain ⟨o, ho, _⟩ := Cont.there q
  have hne : H a ≠ none := fun z => by rw [z] at ho; cases ho
  exact ⟨a, e, fun f => (st.newF a f).elim nf hne, fun f => (st.newR a f).elim nr hne, (by rw [st.h0]; exact h0), Cont.keep (B.keeps st) (fun o e => st.keep _ _ e nr) q⟩
theorem Rel.step (R : Rel M O σ H fr S G) (st : Stp G H G' H') (B : Base M H' S' G') : Rel M O σ H' fr S' G' where
  base := B
  len := R.len
  slot := fun i v e => by
    obtain ⟨u, h1, h2, h3⟩ := R.slot i v e
    exact ⟨u, h1, fun o => OwnR.step R.base st (h2 o), fun o => R.base.rps st (h3 o)⟩
  own := R.own
theorem Base.newFz (B : Base M H S G) {p : Addr} {o : HO} (hp : H p = none) (ok : FzOk M (upd H p o) p) :
    Base M (upd H p o) S { G with F := fun a => G.F a ∨ a = p } ∧ Stp G H { G with F := fun a => G.F a ∨ a = p } (upd H p o) := by
  have same : ∀ a u, H a = some u → upd H p o a = some u := fun a u h => by rw [upd_ne (ne_of_none h hp)]; exact h
  have st : Stp G H { G with F := fun a => G.F a ∨ a = p } (upd H p o) := by
    refine ⟨rfl, rfl, rfl, fun _ h => .inl h, fun a h => h.elim .inl fun e => .inr (by rw [e]; exact hp), ⟨[], by simp⟩, fun _ h => .inl h, fun a u h _ => same a u h, fun a h => ?_⟩
    by_cases e : a = p
    · rw [e]; exact hp
    · rw [upd_ne e] at h; exact h
  have k := B.keeps st
  have h0 : G.H0 p = none ∨ p ∈ G.rho0 := by
    cases q : G.H0 p with
    | none => exact .inl rfl
    | some u =>
      by_cases m : p ∈ G.rho0
      · exact .inr m
      · have := B.keep0 p u q m
        rw [hp] at this; cases this
  have pr : p ∉ G.rho := fun m => by
    obtain ⟨x, q⟩ := B.rho_get m
    rcases q.some with ⟨ys, e⟩ | ⟨_, _, _, e⟩ <;> (rw [hp] at e; cases e)
  have pr0 : p ∉ G.rho0 := fun m => pr (by obtain ⟨more, e⟩ := B.pre; rw [e]; exact List.mem_append_left _ m)
  refine ⟨⟨B.len, fun r x a h1 h2 => ?_, B.nd, fun a h => ?_, fun a u h m => same a u (B.keep0 a u h m), fun a h => .inl (B.sub0 a h), fun a h => h.elim (B.newF a) fun e => .inr ?_, B.pre, B.newR⟩, st⟩
  · have q := B.ob r x a h1 h2
    cases x with
    | lst ds =>
      obtain ⟨xs, e, r⟩ := q
      exact ⟨xs, same _ _ e, RpSs.keep k st.pre r⟩
    | ins C fs =>
      obtain ⟨ca, dx, vs, e1, e2, r⟩ := q
      exact ⟨ca, dx, vs, e1, same _ _ e2, RpF.keep k st.pre r⟩
  · rcases h with h | e
    · obtain ⟨n, q⟩ := B.frz a h
      refine ⟨n, ?_⟩
      rcases q with ⟨_, q⟩ | ⟨_, q⟩ | ⟨_, _, q⟩
      · exact .inl ⟨_, same _ _ q⟩
      · exact .inr (.inl ⟨_, same _ _ q⟩)
      · exact .inr (.inr ⟨_, _, same _ _ q⟩)
    · subst e
      exact ⟨pr, ok⟩
  · rw [e]
    rcases h0 with h | h
    · exact h
    · exact absurd h pr0
theorem Base.newT (B : Base M H S G) {p : Addr} {o : HO} (hp : H p = none) : Base M (upd H p o) S G ∧ Stp G H G (upd H p o) := by
  have same : ∀ a u, H a = some u → upd H p o a = some u := fun a u h => by rw [upd_ne (ne_of_none h hp)]; exact h
  have st : Stp G H G (upd H p o) := by
    refine ⟨rfl, rfl, rfl, fun _ h => h, fun a h => .inl h, ⟨[], by simp⟩, fun _ h => .inl h, fun a u h _ => same a u h, fun a h => ?_⟩
    by_cases e : a = p
    · rw [e]; exact hp
    · rw [upd_ne e] at h; exact h
  have k := B.keeps st
  refine ⟨⟨B.len, fun r x a h1 h2 => ?_, B.nd, fun a h => ?_, fun a u h m => same a u (B.keep0 a u h m), B.sub0, B.newF, B.pre, B.newR⟩, st⟩
  · have q := B.ob r x a h1 h2
    cases x with
    | lst ds =>
      obtain ⟨xs, e, r⟩ := q
      exact ⟨xs, same _ _ e, RpSs.keep k st.pre r⟩
    | ins C fs =>
      obtain ⟨ca, dx, vs, e1, e2, r⟩ := q
      exact ⟨ca, dx, vs, e1, same _ _ e2, RpF.keep k st.pre r⟩
  · obtain ⟨n, q⟩ := B.frz a h
    refine ⟨n, ?_⟩
    rcases q with ⟨_, q⟩ | ⟨_, q⟩ | ⟨_, _, q⟩
    · exact .inl ⟨_, same _ _ q⟩
    · exact .inr (.inl ⟨_, same _ _ q⟩)
    · exact .inr (.inr ⟨_, _, same _ _ q⟩)
theorem Rel.newL (R : Rel M O σ H fr S G) {p : Addr} {xs : List V} {ds : List PyData} (hp : H p = none) (r : RpAll M G.F H ds xs) :
    ∃ G', Rel M O σ (upd H p (.lst xs)) fr S G' ∧ Stp G H G' (upd H p (.lst xs)) ∧ RpS M G' (upd H p (.lst xs)) (.d (.list ds)) (.ref p) := by
  obtain ⟨B, st⟩ := R.base.newFz (o := .lst xs) hp (.inl ⟨xs, upd_same⟩)
  exact ⟨_, R.step st B, st, .lst (.inr rfl) upd_same (RpAll.keep (R.base.keeps st) r)⟩
theorem Rel.newT (R : Rel M O σ H fr S G) {p : Addr} {xs : List V} {ds : List PyData} (hp : H p = none) (r : RpAll M G.F H ds xs) :
    Rel M O σ (upd H p (.tup xs)) fr S G ∧ Stp G H G (upd H p (.tup xs)) ∧ RpS M G (upd H p (.tup xs)) (.d (.tuple ds)) (.ref p) := by
  obtain ⟨B, st⟩ := R.base.newT (o := .tup xs) hp
  exact ⟨R.step st B, st, .tup (.inl (.inl upd_same)) (RpAll.keep (R.base.keeps st) r)⟩
structure Adv (G : Gh) (H : Hp) (G' : Gh) (H' : Hp) : Prop where
  h0 : G'.H0 = G.H0
  f0 : G'.F0 = G.F0
  r0 : G'.rho0 = G.rho0
  keeps : Keeps G.F G'.F H H'
  pre : ∃ more, G'.rho = G.rho ++ more
theorem Keeps.refl {F : Addr → Prop} : Keeps F F H H := ⟨fun _ h => h, fun _ _ _ h => h, fun _ _ h => h, fun _ _ _ h => h⟩
theorem Keeps.trans {F F1 F2 : Addr → Prop} {H1 H2 : Hp} (a : Keeps F F1 H H1) (b : Keeps F1 F2 H1 H2) : Keeps F F2 H H2 :=
  ⟨fun x h => b.sub x (a.sub x h), fun x o f h => b.frozen x o (a.sub x f) (a.frozen x o f h), fun x o h => b.tup x o (a.tup x o h), fun x o u h => b.frz x o u (a.frz x o u h)⟩
theorem Adv.refl : Adv G H G H := ⟨rfl, rfl, rfl, Keeps.refl, ⟨[], by simp⟩⟩
theorem Adv.trans {G2 : Gh} {H2 : Hp} (a : Adv G H G' H') (b : Adv G' H' G2 H2) : Adv G H G2 H2 where
  h0 := b.h0.trans a.h0
  f0 := b.f0.trans a.f0
  r0 := b.r0.trans a.r0
  keeps := a.keeps.trans b.keeps
  pre := by
    obtain ⟨m1, e1⟩ := a.pre
    obtain ⟨m2, e2⟩ := b.pre
    exact ⟨m1 ++ m2, by rw [e2, e1, List.append_assoc]⟩
theorem Base.adv (B : Base M H S G) (st : Stp G H G' H') : Adv G H G' H' := ⟨st.h0, st.f0, st.r0, B.keeps st, st.pre⟩
theorem Adv.rps (a : Adv G H G' H') {x : SV} {v : V} (h : RpS M G H x v) : RpS M G' H' x v := RpS.keep a.keeps a.pre h
theorem Rel.freeze (R : Rel M O σ H fr S G) (O' : Own) (sub : ∀ i, O'.has i → O.has i) : ∃ G', Rel M O' σ H fr S G' ∧ Adv G H G' H := by
  let F' : Addr → Prop := fun a => G.F a ∨ ∃ i v, O.has i ∧ ¬ O'.has i ∧ fr[i]? = some (some v) ∧ σ[i]? = some (some (V.ref a))
  have k : Keeps G.F F' H H := ⟨fun a h => .inl h, fun _ _ _ h => h, fun _ _ h => h, fun _ _ _ h => h⟩
  have at_ : ∀ i v a, O.has i → fr[i]? = some (some v) → σ[i]? = some (some (V.ref a)) → ¬ G.F a ∧ a ∉ G.rho ∧ G.H0 a = none ∧ Cont M G.F H a v := fun i v a o e1 e2 => by
    obtain ⟨u, h1, h2, _⟩ := R.slot i v e1
    obtain ⟨b, e, q⟩ := h2 o
    rw [h1] at e2
    have : u = .ref a := by simpa using e2
    rw [e] at this
    cases this
    exact q
  have B : Base M H S { G with F := F' } := by
    refine ⟨R.base.len, fun r o a h1 h2 => ?_, R.base.nd, fun a h => ?_, R.base.keep0, fun a h => .inl (R.base.sub0 a h), fun a h => ?_, R.base.pre, R.base.newR⟩
    · have q := R.base.ob r o a h1 h2
      cases o with
      | lst ds =>
        obtain ⟨xs, e, r⟩ := q
        exact ⟨xs, e, RpSs.keep (G' := { G with F := F' }) k ⟨[], by simp⟩ r⟩
      | ins C fs =>
        obtain ⟨ca, dx, vs, e1, e2, r⟩ := q
        exact ⟨ca, dx, vs, e1, e2, RpF.keep (G' := { G with F := F' }) k ⟨[], by simp⟩ r⟩
    · rcases h with h | ⟨i, v, o, _, e1, e2⟩
      · exact R.base.frz a h
      · obtain ⟨_, nr, _, c⟩ := at_ i v a o e1 e2
        obtain ⟨_, _, z⟩ := Cont.there c
        exact ⟨nr, z⟩
    · rcases h with h | ⟨i, v, o, _, e1, e2⟩
      · exact R.base.newF a h
      · exact .inr (at_ i v a o e1 e2).2.2.1
  refine ⟨{ G with F := F' }, ⟨B, R.len, fun i v e => ?_, fun i j v w a oi oj => R.own i j v w a (sub i oi) (sub j oj)⟩, ⟨rfl, rfl, rfl, k, ⟨[], by simp⟩⟩⟩
  obtain ⟨u, h1, h2, h3⟩ := R.slot i v e
  refine ⟨u, h1, fun o => ?_, fun o => ?_⟩
  · obtain ⟨a, e1, nf, nr, h0, c⟩ := h2 (sub i o)
    refine ⟨a, e1, fun f => ?_, nr, h0, Cont.keep k (fun _ e => e) c⟩
    rcases f with f | ⟨j, w, oj, noj, f1, f2⟩
    · exact nf f
    · subst e1
      exact noj (by rw [← R.own i j v w a (sub i o) oj e f1 h1 f2]; exact o)
  · by_cases oi : O.has i
    · obtain ⟨a, e1, nf, nr, h0, c⟩ := h2 oi
      subst e1
      obtain ⟨x, rfl⟩ := Cont.data c
      exact Cont.rp (F := F') (.inr ⟨i, _, oi, o, e, h1⟩) (Cont.keep k (fun _ e => e) c)
    · exact RpS.keep (G' := { G with F := F' }) k ⟨[], by simp⟩ (h3 oi)
theorem Rel.ownWrite (R : Rel M O σ H fr S G) {i : Nat} {v v' : SV} {a : Addr} {o : HO} (ho : O.has i) (e : fr[i]? = some (some v)) (hs : σ[i]? = some (some (V.ref a))) (new : Cont M G.F (upd H a o) a v') :
    Rel M O σ (upd H a o) (fr.set i (some v')) S G ∧ Adv G H G (upd H a o) := by
  obtain ⟨nf, nr, h0, c⟩ : ¬ G.F a ∧ a ∉ G.rho ∧ G.H0 a = none ∧ Cont M G.F H a v := by
    obtain ⟨u, h1, h2, _⟩ := R.slot i v e
    obtain ⟨b, e, q⟩ := h2 ho
    rw [h1] at hs
    have : u = .ref a := by simpa using hs
    rw [e] at this
    cases this
    exact q
  obtain ⟨oa, hoa, fz⟩ := Cont.there c
  have nt : ∀ b, (∃ xs, H b = some (.tup xs)) → b ≠ a := fun b ⟨xs, h⟩ z => by
    subst z
    rcases fz with ⟨_, q⟩ | ⟨_, q⟩ | ⟨_, _, q⟩ <;> (rw [h] at q; cases q)
  have nz : ∀ b, (∃ o u, H b = some (.frz o u)) → b ≠ a := fun b ⟨_, _, h⟩ z => by
    subst z
    rcases fz with ⟨_, q⟩ | ⟨_, q⟩ | ⟨_, _, q⟩ <;> (rw [h] at q; cases q)
  have k : Keeps G.F G.F H (upd H a o) := ⟨fun _ h => h, fun b u f h => by rw [upd_ne (show b ≠ a from fun z => nf (by rw [← z]; exact f))]; exact h, fun b xs h => by rw [upd_ne (nt b ⟨xs, h⟩)]; exact h, fun b x u h => by rw [upd_ne (nz b ⟨x, u, h⟩)]; exact h⟩
  have nrho : ∀ b, b ∈ G.rho → b ≠ a := fun b m z => nr (by rw [← z]; exact m)
  have B : Base M (upd H a o) S G := by
    refine ⟨R.base.len, fun r x b h1 h2 => ?_, R.base.nd, fun b h => ?_, fun b u h m => ?_, R.base.sub0, R.base.newF, R.base.pre, R.base.newR⟩
    · have q := R.base.ob r x b h1 h2
      have nb := nrho b (List.mem_of_getElem? h2)
      cases x with
      | lst ds =>
        obtain ⟨xs, e, r⟩ := q
        exact ⟨xs, by rw [upd_ne nb]; exact e, RpSs.keep k ⟨[], by simp⟩ r⟩
      | ins C fs =>
        obtain ⟨ca, dx, vs, e1, e2, r⟩ := q
        exact ⟨ca, dx, vs, e1, by rw [upd_ne nb]; exact e2, RpF.keep k ⟨[], by simp⟩ r⟩
    · obtain ⟨n, q⟩ := R.base.frz b h
      have nb : b ≠ a := fun z => nf (by rw [← z]; exact h)
      refine ⟨n, ?_⟩
      unfold FzOk at q ⊢
      rw [upd_ne nb]
      exact q
    · have nb : b ≠ a := fun z => by rw [z, h0] at h; cases h
      rw [upd_ne nb]
      exact R.base.keep0 b u h m
  have hi : i < fr.length := (List.getElem?_eq_some_iff.mp e).1
  refine ⟨⟨B, by rw [List.length_set]; exact R.len, fun j w f => ?_, fun j l w x b oj ol f1 f2 => ?_⟩, ⟨rfl, rfl, rfl, k, ⟨[], by simp⟩⟩⟩
  · by_cases hj : i = j
    · subst hj
      rw [List.getElem?_set_self hi] at f
      have : v' = w := by simpa using f
      subst this
      refine ⟨.ref a, hs, fun _ => ⟨a, rfl, nf, nr, h0, new⟩, fun n => absurd ho n⟩
    · rw [List.getElem?_set_ne hj] at f
      obtain ⟨u, h1, h2, h3⟩ := R.slot j w f
      refine ⟨u, h1, fun oj => ?_, fun oj => RpS.keep k ⟨[], by simp⟩ (h3 oj)⟩
      obtain ⟨b, e1, nfb, nrb, h0b, cb⟩ := h2 oj
      have nb : b ≠ a := fun z => by
        subst z
        subst e1
        exact hj (R.own i j v w b ho oj e f hs h1)
      exact ⟨b, e1, nfb, nrb, h0b, Cont.keep k (fun _ q => by rw [upd_ne nb]; exact q) cb⟩
  · have back : ∀ {m : Nat} {y : SV}, (fr.set i (some v'))[m]? = some (some y) → ∃ z, fr[m]? = some (some z) := fun {m y} f => by
      by_cases hm : i = m
      · subst hm; exact ⟨v, e⟩
      · rw [List.getElem?_set_ne hm] at f; exact ⟨y, f⟩
    obtain ⟨z1, g1⟩ := back f1
    obtain ⟨z2, g2⟩ := back f2
    exact R.own j l z1 z2 b oj ol g1 g2
theorem Rel.store (R : Rel M O σ H fr S G) {i : Nat} {v : SV} {u : V} (hi : i < σ.length) (r : RpS M G H v u) : Rel M (O.set i false) (σ.set i (some u)) H (fr.set i (some v)) S G := by
  have hfi : i < fr.length := by rw [R.len]; exact hi
  have oset : ∀ j, Own.has (O.set i false) j → j ≠ i ∧ O.has j := fun j h => by
    unfold Own.has at h ⊢
    by_cases e : i = j
    · subst e
      by_cases hl : i < O.length
      · rw [List.getElem?_set_self hl] at h; cases h
      · rw [List.getElem?_eq_none (by simpa using hl)] at h; cases h
    · rw [List.getElem?_set_ne e] at h
      exact ⟨fun z => e z.symm, h⟩
  refine ⟨R.base, by simp [R.len], fun j w f => ?_, fun j l w x a oj ol f1 f2 g1 g2 => ?_⟩
  · by_cases hj : i = j
    · subst hj
      rw [List.getElem?_set_self hfi] at f
      have : v = w := by simpa using f
      subst this
      exact ⟨u, List.getElem?_set_self hi, fun o => absurd rfl (oset i o).1, fun _ => r⟩
    · rw [List.getElem?_set_ne hj] at f
      obtain ⟨y, h1, h2, h3⟩ := R.slot j w f
      refine ⟨y, by rw [List.getElem?_set_ne hj]; exact h1, fun o => h2 (oset j o).2, fun o => h3 fun z => o ?_⟩
      show (O.set i false)[j]? = some true
      rw [List.getElem?_set_ne hj]
      exact z
  · obtain ⟨n1, o1⟩ := oset j oj
    obtain ⟨n2, o2⟩ := oset l ol
    rw [List.getElem?_set_ne (Ne.symm n1)] at f1 g1
    rw [List.getElem?_set_ne (Ne.symm n2)] at f2 g2
    exact R.own j l w x a o1 o2 f1 f2 g1 g2
theorem Rel.storeOwn (R : Rel M O σ H fr S G) {i : Nat} {v : SV} {a : Addr} (hi : i < σ.length) (hiO : i < O.length) (nf : ¬ G.F a) (nr : a ∉ G.rho) (h0 : G.H0 a = none) (c : Cont M G.F H a v)
    (no : ∀ j w, O.has j → fr[j]? = some (some w) → σ[j]? ≠ some (some (V.ref a))) : Rel M (O.set i true) (σ.set i (some (.ref a))) H (fr.set i (some v)) S G := by
  have hfi : i < fr.length := by rw [R.len]; exact hi
  have oset : ∀ j, j ≠ i → Own.has (O.set i true) j → O.has j := fun j e h => by
    unfold Own.has at h ⊢
    rw [List.getElem?_set_ne (Ne.symm e)] at h
    exact h
  refine ⟨R.base, by simp [R.len], fun j w f => ?_, fun j l w x b oj ol f1 f2 g1 g2 => ?_⟩
  · by_cases hj : i = j
    · subst hj
      rw [List.getElem?_set_self hfi] at f
      have : v = w := by simpa using f
      subst this
      exact ⟨.ref a, List.getElem?_set_self hi, fun _ => ⟨a, rfl, nf, nr, h0, c⟩, fun n => absurd (List.getElem?_set_self hiO) n⟩
    · rw [List.getElem?_set_ne hj] at f
      obtain ⟨y, h1, h2, h3⟩ := R.slot j w f
      refine ⟨y, by rw [List.getElem?_set_ne hj]; exact h1, fun o => h2 (oset j (Ne.symm hj) o), fun o => h3 fun z => o ?_⟩
      show (O.set i true)[j]? = some true
      rw [List.getElem?_set_ne hj]
      exact z
  · by_cases hj : j = i
    · by_cases hl : l = i
      · rw [hj, hl]
      · subst hj
        rw [List.getElem?_set_self hi] at g1
        have e1 : a = b := by simpa using g1
        subst e1
        rw [List.getElem?_set_ne (Ne.symm hl)] at f2 g2
        exact absurd g2 (no l x (oset l hl ol) f2)
    · by_cases hl : l = i
      · subst hl
        rw [List.getElem?_set_self hi] at g2
        have e1 : a = b := by simpa using g2
        subst e1
        rw [List.getElem?_set_ne (Ne.symm hj)] at f1 g1
        exact absurd g1 (no j w (oset j hj oj) f1)
      · rw [List.getElem?_set_ne (Ne.symm hj)] at f1 g1
        rw [List.getElem?_set_ne (Ne.symm hl)] at f2 g2
        exact R.own j l w x b (oset j hj oj) (oset l hl ol) f1 f2 g1 g2
theorem Base.write (B : Base M H S G) {a : Addr} {o : HO} (nf : ¬ G.F a) (nr : a ∉ G.rho) (h0 : G.H0 a = none) (fz : FzOk M H a) : Base M (upd H a o) S G ∧ Keeps G.F G.F H (upd H a o) := by
  have nt : ∀ b, (∃ xs, H b = some (.tup xs)) → b ≠ a := fun b ⟨xs, h⟩ z => by
    subst z
    rcases fz with ⟨_, q⟩ | ⟨_, q⟩ | ⟨_, _, q⟩ <;> (rw [h] at q; cases q)
  have nz : ∀ b, (∃ o u, H b = some (.frz o u)) → b ≠ a := fun b ⟨_, _, h⟩ z => by
    subst z
    rcases fz with ⟨_, q⟩ | ⟨_, q⟩ | ⟨_, _, q⟩ <;> (rw [h] at q; cases q)
  have k : Keeps G.F G.F H (upd H a o) := ⟨fun _ h => h, fun b u f h => by rw [upd_ne (show b ≠ a from fun z => nf (by rw [← z]; exact f))]; exact h, fun b xs h => by rw [upd_ne (nt b ⟨xs, h⟩)]; exact h, fun b x u h => by rw [upd_ne (nz b ⟨x, u, h⟩)]; exact h⟩
  refine ⟨⟨B.len, fun r x b h1 h2 => ?_, B.nd, fun b h => ?_, fun b u h m => ?_, B.sub0, B.newF, B.pre, B.newR⟩, k⟩
  · have q := B.ob r x b h1 h2
    have nb : b ≠ a := fun z => nr (by rw [← z]; exact List.mem_of_getElem? h2)
    cases x with
    | lst ds =>
      obtain ⟨xs, e, r⟩ := q
      exact ⟨xs, by rw [upd_ne nb]; exact e, RpSs.keep k ⟨[], by simp⟩ r⟩
    | ins C fs =>
      obtain ⟨ca, dx, vs, e1, e2, r⟩ := q
      exact ⟨ca, dx, vs, e1, by rw [upd_ne nb]; exact e2, RpF.keep k ⟨[], by simp⟩ r⟩
  · obtain ⟨n, q⟩ := B.frz b h
    have nb : b ≠ a := fun z => nf (by rw [← z]; exact h)
    refine ⟨n, ?_⟩
    unfold FzOk at q ⊢
    rw [upd_ne nb]
    exact q
  · have nb : b ≠ a := fun z => by rw [z, h0] at h; cases h
    rw [upd_ne nb]
    exact B.keep0 b u h m
theorem Base.new0 (B : Base M H S G) {a : Addr} (h : H a = none) : G.H0 a = none ∧ a ∉ G.rho ∧ ¬ G.F a := by
  have nr : a ∉ G.rho := fun m => by
    obtain ⟨x, q⟩ := B.rho_get m
    rcases q.some with ⟨ys, e⟩ | ⟨_, _, _, e⟩ <;> (rw [h] at e; cases e)
  have nr0 : a ∉ G.rho0 := fun m => nr (by obtain ⟨more, e⟩ := B.pre; rw [e]; exact List.mem_append_left _ m)
  refine ⟨?_, nr, fun f => ?_⟩
  · cases q : G.H0 a with
    | none => rfl
    | some u =>
      have := B.keep0 a u q nr0
      rw [h] at this; cases this
  · rcases (B.frz a f).2 with ⟨_, q⟩ | ⟨_, q⟩ | ⟨_, _, q⟩ <;> (rw [h] at q; cases q)
structure Tmp (M : Mo) (H : Hp) (a : Addr) (v : SV) (G' : Gh) (H' : Hp) : Prop where
  new : H a = none
  nf : ¬ G'.F a
  nr : a ∉ G'.rho
  cont : Cont M G'.F H' a v
theorem Tmp.step {H2 : Hp} {G2 : Gh} {a : Addr} {v : SV} (t : Tmp M H a v G' H') (B : Base M H' S' G') (st : Stp G' H' G2 H2) : Tmp M H a v G2 H2 := by
  obtain ⟨o, ho, _⟩ := Cont.there t.cont
  have hne : H' a ≠ none := fun z => by rw [z] at ho; cases ho
  exact ⟨t.new, fun f => (st.newF a f).elim t.nf hne, fun m => (st.newR a m).elim t.nr hne, Cont.keep (B.keeps st) (fun o e => st.keep _ _ e t.nr) t.cont⟩
theorem Stp.upd_new (st : Stp G H G' H') {a : Addr} {o : HO} (h : H a = none) : Stp G H G' (upd H' a o) where
  h0 := st.h0
  f0 := st.f0
  r0 := st.r0
  sub := st.sub
  newF := st.newF
  pre := st.pre
  newR := st.newR
  keep := fun b u e n => by
    rw [upd_ne (show b ≠ a from fun z => by rw [z, h] at e; cases e)]
    exact st.keep b u e n
  there := fun b e => by
    by_cases z : b = a
    · rw [z]; exact h
    · rw [upd_ne z] at e
      exact st.there b e
theorem Rel.own_there (R : Rel M O σ H fr S G) {i : Nat} {v : SV} {a : Addr} (ho : O.has i) (e : fr[i]? = some (some v)) (hs : σ[i]? = some (some (V.ref a))) : H a ≠ none := by
  obtain ⟨u, h1, h2, _⟩ := R.slot i v e
  obtain ⟨b, e', _, _, _, c⟩ := h2 ho
  rw [h1] at hs
  have : u = .ref a := by simpa using hs
  rw [e'] at this
  cases this
  obtain ⟨o, q, _⟩ := Cont.there c
  rw [q]
  simp
theorem Rel.tmpWrite {G1 : Gh} {H1 : Hp} {S1 : Store} (R1 : Rel M O σ H1 fr S1 G1) (R : Rel M O σ H fr S G) (st : Stp G1 H1 G H) {a : Addr} {v : SV} {o : HO} (t : Tmp M H1 a v G H) :
    Rel M O σ (upd H a o) fr S G ∧ Stp G1 H1 G (upd H a o) ∧ Keeps G.F G.F H (upd H a o) := by
  obtain ⟨_, _, fz⟩ := Cont.there t.cont
  have n0 : G.H0 a = none := by rw [st.h0]; exact (R1.base.new0 t.new).1
  obtain ⟨B, k⟩ := R.base.write (o := o) t.nf t.nr n0 fz
  refine ⟨⟨B, R.len, fun j w f => ?_, R.own⟩, st.upd_new t.new, k⟩
  obtain ⟨u, h1, h2, h3⟩ := R.slot j w f
  refine ⟨u, h1, fun oj => ?_, fun oj => RpS.keep k ⟨[], by simp⟩ (h3 oj)⟩
  obtain ⟨b, e1, nfb, nrb, h0b, cb⟩ := h2 oj
  have nb : b ≠ a := fun z => by
    subst z
    subst e1
    exact R1.own_there oj f h1 t.new
  exact ⟨b, e1, nfb, nrb, h0b, Cont.keep k (fun _ q => by rw [upd_ne nb]; exact q) cb⟩
theorem Rel.tmpFreeze {G1 : Gh} {H1 : Hp} (R : Rel M O σ H fr S G) (st : Stp G1 H1 G H) {a : Addr} {x : PyData} (t : Tmp M H1 a (.d x) G H) (R1 : ∀ i v, O.has i → fr[i]? = some (some v) → σ[i]? ≠ some (some (V.ref a))) (n0 : G.H0 a = none) :
    ∃ G2, Rel M O σ H fr S G2 ∧ Stp G1 H1 G2 H ∧ RpS M G2 H (.d x) (.ref a) := by
  let F' : Addr → Prop := fun b => G.F b ∨ b = a
  have k : Keeps G.F F' H H := ⟨fun a h => .inl h, fun _ _ _ h => h, fun _ _ h => h, fun _ _ _ h => h⟩
  obtain ⟨_, _, fz⟩ := Cont.there t.cont
  have B : Base M H S { G with F := F' } := by
    refine ⟨R.base.len, fun r o b h1 h2 => ?_, R.base.nd, fun b h => ?_, R.base.keep0, fun b h => .inl (R.base.sub0 b h), fun b h => ?_, R.base.pre, R.base.newR⟩
    · have q := R.base.ob r o b h1 h2
      cases o with
      | lst ds =>
        obtain ⟨xs, e, r⟩ := q
        exact ⟨xs, e, RpSs.keep (G' := { G with F := F' }) k ⟨[], by simp⟩ r⟩
      | ins C fs =>
        obtain ⟨ca, dx, vs, e1, e2, r⟩ := q
        exact ⟨ca, dx, vs, e1, e2, RpF.keep (G' := { G with F := F' }) k ⟨[], by simp⟩ r⟩
    · rcases h with h | h
      · exact R.base.frz b h
      · subst h; exact ⟨t.nr, fz⟩
    · rcases h with h | h
      · exact R.base.newF b h
      · subst h; exact .inr n0
  refine ⟨{ G with F := F' }, ⟨B, R.len, fun j w f => ?_, R.own⟩, ⟨st.h0, st.f0, st.r0, fun b h => .inl (st.sub b h), fun b h => ?_, st.pre, st.newR, st.keep, st.there⟩, Cont.rp (F := F') (.inr rfl) (Cont.keep k (fun _ e => e) t.cont)⟩
  · obtain ⟨u, h1, h2, h3⟩ := R.slot j w f
    refine ⟨u, h1, fun oj => ?_, fun oj => RpS.keep (G' := { G with F := F' }) k ⟨[], by simp⟩ (h3 oj)⟩
    obtain ⟨b, e1, nfb, nrb, h0b, cb⟩ := h2 oj
    refine ⟨b, e1, fun z => z.elim nfb fun z => ?_, nrb, h0b, Cont.keep k (fun _ e => e) cb⟩
    subst z
    subst e1
    exact R1 j w oj f h1
  · rcases h with h | h
    · exact st.newF b h
    · subst h; exact .inr t.new
end
end PD
namespace PD
open PySem PySem.Spec PyProof.Rows L2
section
variable {prog : Program} {w : World} {A : Around} {E : Value → Shared → Prop} {s : Shared} {l : Addr} {xs : Array (Int × Tok)}
theorem iter_intTup {Q : Value → Shared → Prop} (hl : IsTup s.heap l (intItems xs))
    (h : ∀ s₂ : Shared, s₂ = { s with heap := s.heap.push { cls := .type "tuple_iterator", data := .fields #[.ref l, .int 0 0] } } →
      (s₂.heap.IsTupleIter s.heap.objs.size l 0 ∧ s₂.heap.IsTuple l (intItems xs)) → (∀ b ∈ [s.heap.objs.size, l], b < s₂.heap.objs.size) → l ≠ s.heap.objs.size → Q (.ref s.heap.objs.size) s₂) :
    wpAny (model prog w) A (pyIter (.ref l)) Q E s := by
  have hT : s.heap.IsTuple l (intItems xs) := hl
  have hlt : l < s.heap.objs.size := by obtain ⟨_, e, _⟩ := hl; exact Heap.lt_size e
  refine wpAny_pyIter_tuple hT (h _ rfl ⟨⟨_, Heap.get?_push_size _ rfl, rfl, rfl⟩, hT.push _⟩ (fun b hb => ?_) (Nat.ne_of_lt hlt))
  show b < (s.heap.push _).objs.size
  rw [Heap.size_push]
  rcases List.mem_cons.mp hb with rfl | hb
  · exact Nat.lt_succ_self _
  · rcases List.mem_cons.mp hb with rfl | hb
    · exact Nat.lt_succ_of_lt hlt
    · cases hb
theorem tup_kept {h' : Heap} (hk : ∀ b o, b ∉ [s.heap.objs.size] → (s.heap.push { cls := .type "tuple_iterator", data := .fields #[.ref l, .int 0 0] }).get? b = some o → h'.get? b = some o) :
    ∀ b o, s.heap.get? b = some o → h'.get? b = some o := fun b o e => by
  refine hk b o (fun hm => ?_) (Heap.get?_push_of_some _ e)
  rcases List.mem_cons.mp hm with e1 | hm
  · exact absurd (e1 ▸ Heap.lt_size e) (Nat.lt_irrefl _)
  · cases hm
theorem sum_tup0 {its : List Value} {ns : List Int} {Q : Value → Shared → Prop} (hh : A.handled = none) (hl : IsTup s.heap l its.toArray) (hi : IntsAre its ns)
    (h : ∀ h' tk t', (∀ b o, s.heap.get? b = some o → h'.get? b = some o) → Q (.int ns.sum t') { s with heap := h', toks := tk }) :
    wpAny (model prog w) A (call (.builtin "sum") [.ref l]) Q E s := by
  obtain ⟨xs, e⟩ := hi.allInts.items
  have hn : numsOf (intItems xs).toList = ns := by rw [← e]; exact hi.numsOf
  rw [nums_intItems] at hn
  rw [e] at hl
  refine call_sum_walkG (iter_intTup hl fun s₂ e st hfp hlI => ?_)
  subst e
  refine ⟨_, _, _, _, _, _, numAt xs, rfl, Walks.tuple (A := A.in1) hh _ l hlI (intItems xs), st, hfp, (fun _ _ => intItems_at), fun h' tk t' hk => ?_⟩
  have := h h' tk t' (tup_kept hk)
  have e2 : preSum (numAt xs) (intItems xs).size = ns.sum := by
    rw [preSum_eq, ← hn, List.take_of_length_le (by simp [intItems])]
  rw [e2]
  exact this
end
section
variable {X : Cx}
def rSumT (K : PySem.W.Frag) : List V → Hp → VK → Prop := fun vs H Q => ∃ (a : Addr) (ns : List Int), vs = [V.ref a] ∧ (SqL K H a (ns.map V.int) ∨ SqT K H a (ns.map V.int)) ∧ Q (.int ns.sum) H
theorem cr_sumT (hc : X.calm = true) : CallR X (.builtin "sum") (rSumT X.K) := by
  intro pins s σ H vs us Q I r h
  obtain ⟨a, ns, rfl, hs | hs, q⟩ := h
  · exact cr_sum hc pins s σ H _ us Q I r ⟨a, ns, rfl, hs, q⟩
  · obtain ⟨its, rv, hl, _⟩ := I.tuple hs
    rw [Vals.ref1 r]
    exact sum_tup0 (I.ok.hd hc) hl rv.ints fun h' tk t' hk => ⟨.int _, H, I.kept hk, ⟨_, rfl⟩, q⟩
end
end PD
namespace PD
open PySem PySem.Spec PyProof.Rows L2
def Mo.of (X : Cx) : Mo := ⟨X.w, X.K, X.mg⟩
def XRep (M : Mo) (G : Gh) (H : Hp) (x : Exc) (cls : Value) (d : Option Addr) : Prop :=
  ∃ ca, M.mg x.cls = some (.ref ca) ∧ cls = .ref ca ∧
    ((x.flds = none ∧ d = none) ∨ ∃ fs da vs, x.flds = some fs ∧ d = some da ∧ H da = some (.xd vs) ∧ RpF M G H fs vs)
structure Pst {α β : Type} (M : Mo) (W : WX) (O : Own) (σ : L2.St) (H : Hp) (fr : Fr) (G : Gh) (r : Rs α) (rel : Gh → Hp → α → β → Prop) (Q : β → Hp → Prop) : Prop where
  good : r ≠ .bad
  ok : ∀ (z : α) (S' : Store), r = .ok z S' → ∀ (u : β) (H' : Hp) (G' : Gh), Rel M O σ H' fr S' G' → Stp G H G' H' → rel G' H' z u → Q u H'
  exc : ∀ (x : Exc) (S' : Store), r = .exc x S' → ∀ (H' : Hp) (G' : Gh) (cls : Value) (d : Option Addr), Rel M O σ H' fr S' G' → Stp G H G' H' → XRep M G' H' x cls d → W cls d σ H'
section
variable {M : Mo} {W : WX} {O : Own} {σ : L2.St} {H : Hp} {fr : Fr} {S : Store} {G : Gh}
theorem Pst.split {α α' β β' : Type} {r : Rs α} {f : α → Store → Rs β} {relA : Gh → Hp → α → α' → Prop} {relB : Gh → Hp → β → β' → Prop} {QB : β' → Hp → Prop} {QA : α' → Hp → Prop}
    (h : Pst M W O σ H fr G (r.bind f) relB QB)
    (next : ∀ (z : α) (S1 : Store) (u : α') (H1 : Hp) (G1 : Gh), Rel M O σ H1 fr S1 G1 → Stp G H G1 H1 → relA G1 H1 z u → Pst M W O σ H1 fr G1 (f z S1) relB QB → QA u H1) :
    Pst M W O σ H fr G r relA QA := by
  refine ⟨fun e => h.good (by rw [e]; rfl), fun z S1 e u H1 G1 R1 st1 q => ?_, fun x S1 e H1 G1 cls d R1 st1 q => h.exc x S1 (by rw [e]; rfl) H1 G1 cls d R1 st1 q⟩
  have hb : r.bind f = f z S1 := by rw [e]; rfl
  rw [hb] at h
  exact next z S1 u H1 G1 R1 st1 q ⟨h.good, fun z2 S2 e2 u2 H2 G2 R2 st2 q2 => h.ok z2 S2 e2 u2 H2 G2 R2 (st1.trans st2) q2, fun x S2 e2 H2 G2 cls d R2 st2 q2 => h.exc x S2 e2 H2 G2 cls d R2 (st1.trans st2) q2⟩
theorem Pst.fin {α β : Type} {z : α} {rel : Gh → Hp → α → β → Prop} {Q : β → Hp → Prop} (h : Pst M W O σ H fr G (.ok z S) rel Q) {u : β} {H' : Hp} {G' : Gh} (R : Rel M O σ H' fr S G') (st : Stp G H G' H') (q : rel G' H' z u) : Q u H' :=
  h.ok z S rfl u H' G' R st q
theorem Pst.here {α β : Type} {z : α} {rel : Gh → Hp → α → β → Prop} {Q : β → Hp → Prop} (h : Pst M W O σ H fr G (.ok z S) rel Q) (R : Rel M O σ H fr S G) {u : β} (q : rel G H z u) : Q u H :=
  h.fin R Stp.refl q
theorem Pst.not_bad {α β : Type} {rel : Gh → Hp → α → β → Prop} {Q : β → Hp → Prop} (h : Pst M W O σ H fr G (.bad : Rs α) rel Q) : False := h.good rfl
end
inductive RpV (M : Mo) (G : Gh) (H : Hp) : SV → V → Prop
  | val {x : SV} {u : V} : RpS M G H x u → RpV M G H x u
  | own {a : Addr} {ds : List PyData} {vs : List V} : a ∉ G.rho → H a = some (.lst vs) → RpAll M G.F H ds vs → RpV M G H (.d (.list ds)) (.ref a)
  | ownD {a : Addr} {ds : List (PyData × PyData)} : a ∉ G.rho → Cont M G.F H a (.d (.dict ds)) → RpV M G H (.d (.dict ds)) (.ref a)
abbrev RpVs (M : Mo) (G : Gh) (H : Hp) : List SV → List V → Prop := Paired (RpV M G H)
section
variable {M : Mo} {G G' : Gh} {H H' : Hp} {u : V}
theorem RpV.int {i : Int} (h : RpV M G H (.d (.int i)) u) : u = .int i := by
  cases h with
  | val h => cases h; rfl
theorem RpV.str {z : Str} (h : RpV M G H (.d (.str z)) u) : u = .str z := by
  cases h with
  | val h => cases h; rfl
theorem RpV.bl {b : Bool} (h : RpV M G H (.d (.bool b)) u) : u = .bl b := by
  cases h with
  | val h => cases h; rfl
theorem RpV.non (h : RpV M G H (.d .none) u) : u = .non := by
  cases h with
  | val h => cases h; rfl
theorem RpV.lst {ds : List PyData} (h : RpV M G H (.d (.list ds)) u) : ∃ a vs, u = .ref a ∧ H a = some (.lst vs) ∧ RpAll M G.F H ds vs := by
  cases h with
  | val h =>
    cases h with
    | lst f q r => exact ⟨_, _, rfl, q, r⟩
  | own _ q r => exact ⟨_, _, rfl, q, r⟩
theorem RpV.tup {ds : List PyData} (h : RpV M G H (.d (.tuple ds)) u) : ∃ a vs, u = .ref a ∧ SqT M.K H a vs ∧ RpAll M G.F H ds vs := by
  cases h with
  | val h =>
    cases h with
    | tup q r => exact ⟨_, _, rfl, q, r⟩
theorem RpV.obj {r : Nat} (h : RpV M G H (.obj r) u) : RpS M G H (.obj r) u := by
  cases h with
  | val h => exact h
theorem RpV.any {d : PyData} (h : RpV M G H (.d d) u) : ∃ F, Rp M F H d u := by
  cases h with
  | val h => exact ⟨_, h⟩
  | @own a ds vs _ q r =>
    have k : Keeps G.F (fun b => G.F b ∨ b = a) H H := ⟨fun _ h => .inl h, fun _ _ _ h => h, fun _ _ h => h, fun _ _ _ h => h⟩
    exact ⟨_, .lst (.inr rfl) q (RpAll.keep k r)⟩
  | @ownD a ds _ c =>
    have k : Keeps G.F (fun b => G.F b ∨ b = a) H H := ⟨fun _ h => .inl h, fun _ _ _ h => h, fun _ _ h => h, fun _ _ _ h => h⟩
    exact ⟨_, Cont.rp (.inr rfl) (Cont.keep k (fun _ e => e) c)⟩
theorem RpV.step {S : Store} {x : SV} (B : Base M H S G) (st : Stp G H G' H') (h : RpV M G H x u) : RpV M G' H' x u := by
  cases h with
  | val h => exact .val (B.rps st h)
  | own n q r =>
    refine .own (fun m => (st.newR _ m).elim n fun z => by rw [z] at q; cases q) (st.keep _ _ q n) (RpAll.keep (B.keeps st) r)
  | ownD n c =>
    obtain ⟨o, e, _⟩ := Cont.there c
    exact .ownD (fun m => (st.newR _ m).elim n fun z => by rw [z] at e; cases e) (Cont.keep (B.keeps st) (fun o e => st.keep _ _ e n) c)
theorem RpVs.step {S : Store} {xs : List SV} {us : List V} (B : Base M H S G) (st : Stp G H G' H') (h : RpVs M G H xs us) : RpVs M G' H' xs us := Paired.mapP h fun _ _ q => q.step B st
theorem RpVs.of {xs : List SV} {us : List V} (h : RpSs M G H xs us) : RpVs M G H xs us := Paired.mapP h fun _ _ q => .val q
end
def tM (M : Mo) (W : WX) (O : Own) (m : EM) : TE := fun σ H Q => ∃ fr S G, Rel M O σ H fr S G ∧ Pst M W O σ H fr G (m fr S) (RpS M) Q
def tV (M : Mo) (W : WX) (O : Own) (m : EM) : TE := fun σ H Q => ∃ fr S G, Rel M O σ H fr S G ∧ Pst M W O σ H fr G (m fr S) (RpV M) Q
def tAV (M : Mo) (W : WX) (O : Own) (m : AM) : TA := fun σ H Q => ∃ fr S G, Rel M O σ H fr S G ∧ Pst M W O σ H fr G (m fr S) (RpVs M) Q
def tT (M : Mo) (W : WX) (O : Own) (m : TMt) : TT := fun σ H Q => ∃ fr S G, Rel M O σ H fr S G ∧ Pst M W O σ H fr G (m fr S) (fun _ _ b c => b = c) Q
def tA (M : Mo) (W : WX) (O : Own) (m : AM) : TA := fun σ H Q => ∃ fr S G, Rel M O σ H fr S G ∧ Pst M W O σ H fr G (m fr S) (RpSs M) Q
def CE (X : Cx) (W : WX) (O : Own) (e : Expr) (m : EM) : Prop := PE X e (tM (.of X) W O m)
def CV (X : Cx) (W : WX) (O : Own) (e : Expr) (m : EM) : Prop := PE X e (tV (.of X) W O m)
def CAV (X : Cx) (W : WX) (O : Own) (es : List Expr) (m : AM) : Prop := PA X es (tAV (.of X) W O m)
def CT (X : Cx) (W : WX) (O : Own) (e : Expr) (m : TMt) : Prop := PT X e (tT (.of X) W O m)
def CW (X : Cx) (W : WX) (O : Own) (e : Expr) (m : TMt) : Prop := L2.PW X e (tT (.of X) W O m)
def CA (X : Cx) (W : WX) (O : Own) (es : List Expr) (m : AM) : Prop := PA X es (tA (.of X) W O m)
theorem peI {X : Cx} {e : Expr} {t t' : TE} (h : PE X e t) (i : ∀ σ H Q, t' σ H Q → t σ H Q) : PE X e t' := ⟨fun pins s σ H Q I q => h.run pins s σ H Q I (i σ H Q q)⟩
theorem ptI {X : Cx} {e : Expr} {t t' : TT} (h : PT X e t) (i : ∀ σ H Q, t' σ H Q → t σ H Q) : PT X e t' := ⟨fun pins s σ H Q I q => h.run pins s σ H Q I (i σ H Q q)⟩
theorem pwI {X : Cx} {e : Expr} {t t' : TT} (h : L2.PW X e t) (i : ∀ σ H Q, t' σ H Q → t σ H Q) : L2.PW X e t' := ⟨fun wh pins s σ H Q I q => h.run wh pins s σ H Q I (i σ H Q q)⟩
theorem paI {X : Cx} {es : List Expr} {t t' : TA} (h : PA X es t) (i : ∀ σ H Q, t' σ H Q → t σ H Q) : PA X es t' := ⟨fun pos pins s σ H Q I q => h.run pos pins s σ H Q I (i σ H Q q)⟩
def eC (x : PyData) : EM := fun _ S => .ok (.d x) S
def eV (i : Nat) : EM := fun fr S => match fr[i]? with
  | some (some v) => .ok v S
  | _ => .bad
def e1 (p : SV → Store → Rs SV) (a : EM) : EM := fun fr S => (a fr S).bind fun x S1 => p x S1
def e2 (p : SV → SV → Store → Rs SV) (a b : EM) : EM := fun fr S => (a fr S).bind fun x S1 => (b fr S1).bind fun y S2 => p x y S2
def aN : AM := fun _ S => .ok [] S
def aC (a : EM) (r : AM) : AM := fun fr S => (a fr S).bind fun x S1 => (r fr S1).bind fun xs S2 => .ok (x :: xs) S2
def eA (p : List SV → Store → Rs SV) (a : AM) : EM := fun fr S => (a fr S).bind fun xs S1 => p xs S1
def asD : SV → Option PyData
  | .d x => some x
  | _ => none
def asDs : List SV → Option (List PyData)
  | [] => some []
  | .d x :: r => (asDs r).map (x :: ·)
  | _ :: _ => none
def mkTup : List SV → Store → Rs SV := fun xs S => match asDs xs with
  | some ds => if ds.length ≤ sizeLine then .ok (.d (.tuple ds)) S else .bad
  | none => .bad
def mkLst : List SV → Store → Rs SV := fun xs S => match asDs xs with
  | some ds => if ds.length ≤ sizeLine then .ok (.d (.list ds)) S else .bad
  | none => .bad
section
variable {X : Cx} {W : WX} {O : Own} {pos : Pos}
theorem ce_C {e : Expr} {v : V} {x : PyData} (h : PE X e (tC v)) (r : ∀ F H, Rp (.of X) F H x v) : CE X W O e (eC x) := peI h fun σ H Q ⟨fr, S, G, R, p⟩ => p.here (u := v) R (r _ _)
theorem ce_int {i : Int} {j pos} : CE X W O (.Constant (.int i) j pos) (eC (.int i)) := ce_C pe_int fun _ _ => .int i
theorem ce_str {x : Str} {j pos} : CE X W O (.Constant (.str x) j pos) (eC (.str x)) := ce_C pe_str fun _ _ => .str x
theorem ce_bl {b : Bool} {j pos} : CE X W O (.Constant (.bool b) j pos) (eC (.bool b)) := ce_C pe_bl fun _ _ => .bl b
theorem ce_non {j pos} : CE X W O (.Constant .none j pos) (eC .none) := ce_C pe_non fun _ _ => .non
theorem ce_glob {x : Str} {v : V} {u : Value} {d : PyData} (hg : Gl X x) (hm : X.mg x = some u) (r : RelV v u) (rd : ∀ F H, Rp (.of X) F H d v) (hd : (x == ("__debug__" : Str)) = false := by decide) : CE X W O (.Name x pos) (eC d) := ce_C (pe_glob hg hm r hd) rd
theorem ce_var (i : Nat) {x : Str} (ho : (O[i]? == some true) = false := by rfl) (hN : X.N[i]? = some x := by rfl) (hv : Vis X.env.scope x := by first | exact Or.inl rfl | exact Or.inr (Or.inl rfl) | exact Or.inr (Or.inr rfl)) (hd : (x == ("__debug__" : Str)) = false := by decide)
    (hcd : (x == ("__classdict__" : Str)) = false := by decide) : CE X W O (.Name x pos) (eV i) := by
  refine peI (pe_var hN hv hd hcd) fun σ H Q ⟨fr, S, G, R, p⟩ => ?_
  have hno : ¬ O.has i := fun h => by
    have h' : O[i]? = some true := h
    rw [h'] at ho
    cases ho
  cases e : fr[i]? with
  | none => exact (Pst.not_bad (by simpa [eV, e] using p)).elim
  | some w =>
    cases w with
    | none => exact (Pst.not_bad (by simpa [eV, e] using p)).elim
    | some v =>
      have p' : Pst (.of X) W O σ H fr G (Rs.ok v S) (RpS (.of X)) Q := by simpa [eV, e] using p
      obtain ⟨u, h1, _, h3⟩ := R.slot i v e
      exact ⟨u, h1, p'.here R (h3 hno)⟩
def P1 (M : Mo) (r : V → Hp → VK → Prop) (p : SV → Store → Rs SV) : Prop := ∀ {W : WX} {O : Own} {σ : L2.St} {H : Hp} {fr : Fr} {S : Store} {G : Gh} {x : SV} {u : V} {Q : VK},
  Rel M O σ H fr S G → RpV M G H x u → Pst M W O σ H fr G (p x S) (RpS M) Q → r u H Q
def P2 (M : Mo) (r : R2) (p : SV → SV → Store → Rs SV) : Prop := ∀ {W : WX} {O : Own} {σ : L2.St} {H : Hp} {fr : Fr} {S : Store} {G : Gh} {x y : SV} {u v : V} {Q : VK},
  Rel M O σ H fr S G → RpV M G H x u → RpV M G H y v → Pst M W O σ H fr G (p x y S) (RpS M) Q → r u v H Q
def PN (M : Mo) (r : List V → Hp → VK → Prop) (p : List SV → Store → Rs SV) : Prop := ∀ {W : WX} {O : Own} {σ : L2.St} {H : Hp} {fr : Fr} {S : Store} {G : Gh} {xs : List SV} {us : List V} {Q : VK},
  Rel M O σ H fr S G → RpVs M G H xs us → Pst M W O σ H fr G (p xs S) (RpS M) Q → r us H Q
theorem cv_of {e : Expr} {m : EM} (h : CE X W O e m) : CV X W O e m := peI h fun σ H Q ⟨fr, S, G, R, h⟩ => ⟨fr, S, G, R, h.good, fun z S' e u H' G' R' st r => h.ok z S' e u H' G' R' st (.val r), h.exc⟩
theorem two {ma mb : EM} {r : R2} {p : SV → SV → Store → Rs SV} (hp : P2 (.of X) r p) {σ : L2.St} {H : Hp} {Q : VK} (h : tM (.of X) W O (e2 p ma mb) σ H Q) : tOp r (tV (.of X) W O ma) (tV (.of X) W O mb) σ H Q := by
  obtain ⟨fr, S, G, R, h⟩ := h
  exact ⟨fr, S, G, R, h.split fun x S1 u H1 G1 R1 st1 rx h1 => ⟨fr, S1, G1, R1, h1.split fun y S2 v H2 G2 R2 st2 ry h2 => hp R2 (rx.step R1.base st2) ry h2⟩⟩
theorem ce_op {a b : Expr} {op : Operator} {r : R2} {p : SV → SV → Store → Rs SV} {ma mb : EM} (ho : OpR X (binaryOp op) r) (hp : P2 (.of X) r p) (ha : CV X W O a ma) (hb : CV X W O b mb) : CE X W O (.BinOp a op b pos) (e2 p ma mb) :=
  peI (pe_op ho ha hb) fun σ H Q h => two hp h
theorem ce_un {a : Expr} {op : UnaryOp} {r : V → Hp → VK → Prop} {p : SV → Store → Rs SV} {ma : EM} (ho : UnR X (unaryOp op) r) (hp : P1 (.of X) r p) (ha : CV X W O a ma) : CE X W O (.UnaryOp op a pos) (e1 p ma) :=
  peI (pe_un ho ha) fun σ H Q ⟨fr, S, G, R, h⟩ => ⟨fr, S, G, R, h.split fun x S1 u H1 G1 R1 st1 rx h1 => hp R1 rx h1⟩
theorem ce_ix {a b : Expr} {r : R2} {p : SV → SV → Store → Rs SV} {ma mb : EM} (ho : IxR X r) (hp : P2 (.of X) r p) (ha : CV X W O a ma) (hb : CV X W O b mb) (hs : PlainIx b) : CE X W O (.Subscript a b pos) (e2 p ma mb) :=
  peI (pe_ix ho ha hb hs) fun σ H Q h => two hp h
theorem cav_nil : CAV X W O [] aN := paI pa_nil fun σ H Q ⟨fr, S, G, R, h⟩ => h.here R .nil
theorem cav_cons {e : Expr} {es : List Expr} {m : EM} {n : AM} (he : CV X W O e m) (hr : CAV X W O es n) (hs : starEach (e :: es) X.env = (false, eval e X.env) :: starEach es X.env := by rfl) : CAV X W O (e :: es) (aC m n) :=
  paI (pa_cons he hr hs) fun σ H Q ⟨fr, S, G, R, h⟩ => ⟨fr, S, G, R, h.split fun x S1 u H1 G1 R1 st1 rx h1 => ⟨fr, S1, G1, R1, h1.split fun xs S2 us H2 G2 R2 st2 rs h2 => h2.here R2 (.cons (rx.step R1.base st2) rs)⟩⟩
theorem ca_nil : CA X W O [] aN := paI pa_nil fun σ H Q ⟨fr, S, G, R, h⟩ => h.here R .nil
theorem ca_cons {e : Expr} {es : List Expr} {m : EM} {n : AM} (he : CE X W O e m) (hr : CA X W O es n) (hs : starEach (e :: es) X.env = (false, eval e X.env) :: starEach es X.env := by rfl) : CA X W O (e :: es) (aC m n) :=
  paI (pa_cons he hr hs) fun σ H Q ⟨fr, S, G, R, h⟩ => ⟨fr, S, G, R, h.split fun x S1 u H1 G1 R1 st1 rx h1 => ⟨fr, S1, G1, R1, h1.split fun xs S2 us H2 G2 R2 st2 rs h2 => h2.here R2 (.cons (R1.base.rps st2 rx) rs)⟩⟩
end
theorem RpSs.data {M : Mo} {G : Gh} {H : Hp} : ∀ {xs : List SV} {us : List V} {ds : List PyData}, RpSs M G H xs us → asDs xs = some ds → RpAll M G.F H ds us
  | [], _, _, .nil, e => by cases e; exact .nil
  | .d x :: r, _, ds, .cons h t, e => by
    cases q : asDs r with
    | none => simp [asDs, q] at e
    | some es =>
      have e' : x :: es = ds := by simpa [asDs, q] using e
      subst e'
      exact .cons h (RpSs.data t q)
  | .obj _ :: _, _, _, .cons _ _, e => by simp [asDs] at e
  | .scr _ :: _, _, _, .cons _ _, e => by simp [asDs] at e
section
variable {X : Cx} {W : WX} {O : Own} {pos : Pos}
theorem ce_tup {es : List Expr} {m : AM} {x1} (h : CA X W O es m) : CE X W O (.Tuple es x1 pos) (eA mkTup m) := by
  refine peI (pe_tup h) fun σ H Q ⟨fr, S, G, R, h⟩ => ⟨fr, S, G, R, h.split fun xs S1 us H1 G1 R1 st1 rs h1 => ?_⟩
  cases e : asDs xs with
  | none => exact (Pst.not_bad (by simpa [mkTup, e] using h1)).elim
  | some ds =>
    have r := rs.data e
    by_cases z : ds.length ≤ sizeLine
    · have h1' : Pst (.of X) W O σ H1 fr G1 (Rs.ok (.d (.tuple ds)) S1) (RpS (.of X)) Q := by simpa [mkTup, e, z] using h1
      refine ⟨by rw [← r.length]; exact z, fun p hp => ?_⟩
      obtain ⟨R2, st2, q⟩ := R1.newT hp r
      exact h1'.fin R2 st2 q
    · exact (Pst.not_bad (by simpa [mkTup, e, z] using h1)).elim
theorem ce_lst {es : List Expr} {m : AM} (h : CA X W O es m) : CE X W O (.List es pos) (eA mkLst m) := by
  refine peI (pe_lst h) fun σ H Q ⟨fr, S, G, R, h⟩ => ⟨fr, S, G, R, h.split fun xs S1 us H1 G1 R1 st1 rs h1 => ?_⟩
  cases e : asDs xs with
  | none => exact (Pst.not_bad (by simpa [mkLst, e] using h1)).elim
  | some ds =>
    have r := rs.data e
    by_cases z : ds.length ≤ sizeLine
    · have h1' : Pst (.of X) W O σ H1 fr G1 (Rs.ok (.d (.list ds)) S1) (RpS (.of X)) Q := by simpa [mkLst, e, z] using h1
      refine ⟨by rw [← r.length]; exact z, fun p hp => ?_⟩
      obtain ⟨G2, R2, st2, q⟩ := R1.newL hp r
      exact h1'.fin R2 st2 q
    · exact (Pst.not_bad (by simpa [mkLst, e, z] using h1)).elim
end
end PD
namespace PD
open PySem PySem.Spec PyProof.Rows L2
section
variable {X : Cx} {pins : List (Addr × Obj)} {σ : L2.St} {H : Hp} {s : Shared} {F : Addr → Prop}
theorem dK_entries {knd : KeyKind X.prog X.w Key} (hk : ∀ k v, knd.is k v = true → RelV (kV k) v) : ∀ {es : List DictEntry} {vs : List (Key × Value)} {kvs : List (Key × V)}, Pairs knd es vs → KV kvs vs →
    Vals (kvs.map fun p => kV p.1) (es.map (·.key)) ∧ Vals (kvs.map (·.2)) (es.map (·.val))
  | _, _, _, .nil, .nil => ⟨.nil, .nil⟩
  | _, _, _, .cons h1 h2 t, .cons ⟨e, r⟩ t' => by
    obtain ⟨a, b⟩ := dK_entries hk t t'
    refine ⟨.cons ?_ a, .cons ?_ b⟩
    · have q := hk _ _ h1
      rw [← e] at q
      exact q
    · rw [← h2] at r
      exact r
theorem dN_entries {w : World} : ∀ {es : List (NestedKey × Addr × V)} {ds : List DictEntry}, Paired (fun (p : NestedKey × Addr × V) (e : DictEntry) => e.hash = p.1.hash w ∧ e.key = .ref p.2.1 ∧ RelV p.2.2 e.val) es ds →
    Vals (es.map fun e => V.ref e.2.1) (ds.map (·.key)) ∧ Vals (es.map (·.2.2)) (ds.map (·.val))
  | _, _, .nil => ⟨.nil, .nil⟩
  | _, _, .cons ⟨_, r1, r2⟩ t => ⟨.cons r1 (dN_entries t).1, .cons r2 (dN_entries t).2⟩
mutual
theorem Rp.reads (I : Inv X pins σ H s) : ∀ {d : PyData} {v : V} {u : Value}, Rp (.of X) F H d v → RelV v u → ∃ as, Reads s.heap u d as
  | _, _, _, .non, r => by cases r; exact ⟨_, .none⟩
  | _, _, _, .bl b, r => by cases r; exact ⟨_, .bool b⟩
  | _, _, _, .int i, r => by obtain ⟨t, rfl⟩ := r; exact ⟨_, .int i t⟩
  | _, _, _, .str x, r => by obtain ⟨t, rfl⟩ := r; exact ⟨_, .str x t⟩
  | _, _, _, .lst f h q, r => by
    cases r
    obtain ⟨z, its, n, rv, e⟩ := I.hok _ _ h
    obtain ⟨as, ra⟩ := RpAll.reads I q rv
    exact ⟨_, .list e rfl rfl (by simpa using ra)⟩
  | _, _, _, .tup h q, r => by
    cases r
    obtain ⟨its, rv, ⟨o, e, hc, n, hd⟩, z⟩ := I.tuple h
    obtain ⟨as, ra⟩ := RpAll.reads I q rv
    exact ⟨_, .tuple e hc hd (by simpa using ra)⟩
  | _, _, _, .dK f h q1 q2, r => by
    cases r
    obtain ⟨z, y, vs, rv, o, es, ep, e, hx, hd, ko, hp, nd⟩ := I.hok _ _ h
    obtain ⟨v1, v2⟩ := dK_entries (fun _ _ hk => keyIs_rel hk) hp rv
    obtain ⟨as, ra⟩ := RpAll.reads I q1 v1
    obtain ⟨bs, rb⟩ := RpAll.reads I q2 v2
    exact ⟨_, .dict e hx.1 hd ra rb⟩
  | _, _, _, .dN f h _ q1 q2, r => by
    cases r
    obtain ⟨⟨ds, ep, e, hx, hd, hp, _, _⟩, _⟩ := I.hok _ _ h
    obtain ⟨v1, v2⟩ := dN_entries hp
    obtain ⟨as, ra⟩ := RpAll.reads I q1 v1
    obtain ⟨bs, rb⟩ := RpAll.reads I q2 v2
    exact ⟨_, .dict e hx.1 hd ra rb⟩
theorem RpAll.reads (I : Inv X pins σ H s) : ∀ {ds : List PyData} {vs : List V} {us : List Value}, RpAll (.of X) F H ds vs → Vals vs us → ∃ as, ReadsAll s.heap us ds as
  | _, _, _, .nil, .nil => ⟨_, .nil⟩
  | _, _, _, .cons r t, .cons q w => by
    obtain ⟨as, ra⟩ := Rp.reads I r q
    obtain ⟨bs, rb⟩ := RpAll.reads I t w
    exact ⟨_, .cons ra rb⟩
end
end
def addV : SV → SV → Store → Rs SV
  | .d (.int i), .d (.int j), S => .ok (.d (.int (i + j))) S
  | .d (.str x), .d (.str y), S => if x.length + y.length ≤ sizeLine then .ok (.d (.str (x ++ y))) S else .bad
  | .d (.tuple xs), .d (.tuple ys), S => if xs.length + ys.length ≤ sizeLine then .ok (.d (.tuple (xs ++ ys))) S else .bad
  | .d (.list xs), .d (.list ys), S => if xs.length + ys.length ≤ sizeLine then .ok (.d (.list (xs ++ ys))) S else .bad
  | _, _, _ => .bad
def addR (K : PySem.W.Frag) : R2 := fun x y H Q => (rI0 fun i j => .int (i + j)) x y H Q ∨ (∃ i j, x = .str i ∧ y = .str j ∧ i.length + j.length ≤ sizeLine ∧ Q (.str (i ++ j)) H) ∨ rCatA K x y H Q ∨ rCat x y H Q
theorem op_addR {X : Cx} : OpR X (binaryOp .Add) (addR X.K) := op_add.or (op_add_str.or (op_catA.or op_cat))
theorem p_add {M : Mo} : P2 M (addR M.K) addV := by
  intro W O σ H fr S G x y u v Q R rx ry h
  unfold addV at h
  split at h
  · obtain rfl := rx.int; obtain rfl := ry.int
    exact .inl ⟨_, _, rfl, rfl, h.here R (.int _)⟩
  · obtain rfl := rx.str; obtain rfl := ry.str
    split at h
    · rename_i hz
      exact .inr (.inl ⟨_, _, rfl, rfl, hz, h.here R (.str _)⟩)
    · exact h.not_bad.elim
  · obtain ⟨_, _, rfl, h1, r1⟩ := rx.tup
    obtain ⟨_, _, rfl, h2, r2⟩ := ry.tup
    split at h
    · rename_i hz
      have hz' := hz
      rw [r1.length, r2.length] at hz'
      refine .inr (.inr (.inl ⟨_, _, _, _, rfl, rfl, h1, h2, hz', fun e => ?_, fun _ e => ?_, fun _ _ p hp => ?_⟩))
      · subst e
        cases r1
        exact h.here R (.tup h2 r2)
      · subst e
        cases r2
        rw [List.append_nil] at h
        exact h.here R (.tup h1 r1)
      · obtain ⟨R2, st2, q⟩ := R.newT hp (r1.append r2)
        exact h.fin R2 st2 q
    · exact h.not_bad.elim
  · obtain ⟨_, _, rfl, h1, r1⟩ := rx.lst
    obtain ⟨_, _, rfl, h2, r2⟩ := ry.lst
    split at h
    · rename_i hz
      have hz' := hz
      rw [r1.length, r2.length] at hz'
      refine .inr (.inr (.inr ⟨_, _, _, _, rfl, rfl, h1, h2, hz', fun p hp => ?_⟩))
      obtain ⟨G2, R2, st2, q⟩ := R.newL hp (r1.append r2)
      exact h.fin R2 st2 q
    · exact h.not_bad.elim
  · exact h.not_bad.elim
def subV : SV → SV → Store → Rs SV
  | .d (.int i), .d (.int j), S => .ok (.d (.int (i - j))) S
  | _, _, _ => .bad
theorem p_sub {M : Mo} : P2 M (rI0 fun i j => .int (i - j)) subV := by
  intro W O σ H fr S G x y u v Q R rx ry h
  unfold subV at h
  split at h
  · obtain rfl := rx.int; obtain rfl := ry.int
    exact ⟨_, _, rfl, rfl, h.here R (.int _)⟩
  · exact h.not_bad.elim
def small64 (i : Int) : Bool := decide (-(2 ^ 64) < i) && decide (i < 2 ^ 64)
def repS (z : Str) (k : Nat) : Str := ⟨(List.replicate k z.cps).foldl (· ++ ·) #[]⟩
theorem repS_cps (z : Str) (k : Nat) : (repS z k).cps.toList = (List.replicate k z.cps.toList).flatten := by
  have : ∀ (k : Nat) (acc : Array Nat), ((List.replicate k z.cps).foldl (· ++ ·) acc).toList = acc.toList ++ (List.replicate k z.cps.toList).flatten := fun k => by
    induction k with
    | zero => intro acc; simp
    | succ k ih =>
      intro acc
      rw [List.replicate_succ, List.foldl_cons, ih, List.replicate_succ, List.flatten_cons, Array.toList_append, List.append_assoc]
  have := this k #[]
  simp only [List.nil_append] at this
  exact this
theorem repS_len (z : Str) (k : Nat) : (repS z k).length = k * z.length := by
  have h := congrArg List.length (repS_cps z k)
  have e : ∀ (k : Nat) (xs : List Nat), (List.replicate k xs).flatten.length = k * xs.length := fun k xs => by
    induction k with
    | zero => simp
    | succ k ih => rw [List.replicate_succ, List.flatten_cons, List.length_append, ih, Nat.succ_mul, Nat.add_comm]
  rw [e] at h
  simpa [Str.length] using h
def rRepS : R2 := fun x y H Q => ∃ z k, x = V.str z ∧ y = V.int k ∧ 0 ≤ k ∧ k ≤ 4000 ∧ z.length ≤ 4000 ∧ Q (.str (repS z k.toNat)) H
theorem op_repS {X : Cx} : OpR X (binaryOp .Mult) rRepS := by
  intro pins s σ H x y v u Q I rx ry h
  obtain ⟨z, k, rfl, rfl, k0, k1, hz, q⟩ := h
  obtain ⟨t, rfl⟩ := rx
  obtain ⟨t2, rfl⟩ := ry
  have sz : sizeLine = 16777216 := sizeLine_eq
  have hm : z.length * k.toNat ≤ 4000 * 4000 := Nat.mul_le_mul hz (by omega)
  refine P.mul_str ?_ ?_ ?_ ?_
  · rw [decide_eq_false (by omega), decide_eq_false (by omega)]
    rfl
  · intro h1 _
    have : (2 ^ 63 - 1 : Int) / k ≥ 9223372036854775 / 4 := by
      rw [ge_iff_le, Int.le_ediv_iff_mul_le (by omega)]
      omega
    omega
  · intro _ _
    unfold Builtin.Str.tooLong
    rw [decide_eq_false (by omega)]
  · by_cases h1 : k < 1
    · rw [if_pos h1]
      have : k = 0 := by omega
      subst this
      exact ⟨by decide, .str _, H, I.tok _, ⟨_, rfl⟩, q⟩
    · rw [if_neg h1]
      by_cases h2 : (k == 1 || z.length == 0) = true
      · rw [if_pos h2]
        have e : repS z k.toNat = z := by
          rw [Bool.or_eq_true, beq_iff_eq, beq_iff_eq] at h2
          rcases h2 with h2 | h2
          · subst h2
            show (⟨#[] ++ z.cps⟩ : Str) = z
            rw [Array.empty_append]
          · have e1 : z.cps.toList = [] := by
              have : z.cps.toList.length = 0 := by simpa [Str.length] using h2
              exact List.length_eq_zero_iff.mp this
            have e2 := repS_cps z k.toNat
            rw [e1] at e2
            have e3 : (repS z k.toNat).cps.toList = z.cps.toList := by rw [e2, e1]; simp
            have e4 : (repS z k.toNat).cps = z.cps := Array.toList_inj.mp e3
            cases z
            simp only [repS] at e4 ⊢
            rw [e4]
        rw [e] at q
        exact ⟨.str _, H, I, ⟨_, rfl⟩, q⟩
      · rw [if_neg h2]
        refine ⟨?_, .str _, H, I.tok _, ⟨_, rfl⟩, q⟩
        have := repS_len z k.toNat
        unfold repS at this
        rw [this, Nat.mul_comm]
        omega
def mulV : SV → SV → Store → Rs SV
  | .d (.str z), .d (.int k), S => if (decide (0 ≤ k) && decide (k ≤ 4000) && decide (z.length ≤ 4000)) = true then .ok (.d (.str (repS z k.toNat))) S else .bad
  | .d (.int i), .d (.int j), S => if (small64 i || small64 j) = true then .ok (.d (.int (i * j))) S else .bad
  | .d (.list xs), .d (.int k), S => if (decide (-(2 ^ 63) ≤ k) && decide (k < 2 ^ 63) && decide (xs.length * k.toNat ≤ sizeLine)) = true then .ok (.d (.list (List.replicate k.toNat xs).flatten)) S else .bad
  | .d (.tuple xs), .d (.int k), S => if (!xs.isEmpty && decide (2 ≤ k) && decide (k ≤ 1000) && decide (xs.length ≤ 1000)) = true then .ok (.d (.tuple (List.replicate k.toNat xs).flatten)) S else .bad
  | _, _, _ => .bad
def mulR (K : PySem.W.Frag) : R2 := fun x y H Q => rI CMul (fun i j => .int (i * j)) x y H Q ∨ rRep x y H Q ∨ rRepT K x y H Q ∨ rRepS x y H Q
theorem op_mulR {X : Cx} : OpR X (binaryOp .Mult) (mulR X.K) := op_mul.or (op_rep.or (op_repT.or op_repS))
theorem RpAll.replicate {M : Mo} {F : Addr → Prop} {H : Hp} {ds : List PyData} {vs : List V} (r : RpAll M F H ds vs) : ∀ n : Nat, RpAll M F H (List.replicate n ds).flatten (List.replicate n vs).flatten
  | 0 => .nil
  | n + 1 => by
    rw [List.replicate_succ, List.replicate_succ, List.flatten_cons, List.flatten_cons]
    exact r.append (r.replicate n)
theorem p_mul {M : Mo} : P2 M (mulR M.K) mulV := by
  intro W O σ H fr S G x y u v Q R rx ry h
  unfold mulV at h
  split at h
  · obtain rfl := ry.int
    obtain rfl := rx.str
    split at h
    · rename_i hz
      simp only [Bool.and_eq_true, decide_eq_true_eq] at hz
      exact .inr (.inr (.inr ⟨_, _, rfl, rfl, hz.1.1, hz.1.2, hz.2, h.here R (.str _)⟩))
    · exact h.not_bad.elim
  · obtain rfl := rx.int; obtain rfl := ry.int
    split at h
    · rename_i hz
      refine .inl ⟨_, _, rfl, rfl, ?_, h.here R (.int _)⟩
      simp only [small64, Bool.or_eq_true, Bool.and_eq_true, decide_eq_true_eq] at hz
      exact hz
    · exact h.not_bad.elim
  · obtain rfl := ry.int
    obtain ⟨_, _, rfl, h1, r1⟩ := rx.lst
    split at h
    · rename_i hz
      simp only [Bool.and_eq_true, decide_eq_true_eq] at hz
      have hz' := hz.2
      rw [r1.length] at hz'
      refine .inr (.inl ⟨_, _, _, rfl, rfl, h1, hz.1.1, hz.1.2, hz', fun p hp => ?_⟩)
      obtain ⟨G2, R2, st2, q⟩ := R.newL hp (r1.replicate _)
      exact h.fin R2 st2 q
    · exact h.not_bad.elim
  · obtain rfl := ry.int
    obtain ⟨_, _, rfl, h1, r1⟩ := rx.tup
    split at h
    · rename_i hz
      simp only [Bool.and_eq_true, decide_eq_true_eq] at hz
      have hl := r1.length
      refine .inr (.inr (.inl ⟨_, _, _, rfl, rfl, h1, ?_, hz.1.1.2, hz.1.2, by rw [← hl]; exact hz.2, fun p hp => ?_⟩))
      · intro e
        subst e
        cases r1
        simp at hz
      · obtain ⟨R2, st2, q⟩ := R.newT hp (r1.replicate _)
        exact h.fin R2 st2 q
    · exact h.not_bad.elim
  · exact h.not_bad.elim
def modV : SV → SV → Store → Rs SV
  | .d (.int i), .d (.int j), S => if 0 < j then .ok (.d (.int (i % j))) S else .bad
  | _, _, _ => .bad
theorem p_mod {M : Mo} : P2 M (rI (fun _ j => 0 < j) fun i j => .int (i % j)) modV := by
  intro W O σ H fr S G x y u v Q R rx ry h
  unfold modV at h
  split at h
  · obtain rfl := rx.int; obtain rfl := ry.int
    split at h
    · rename_i hz
      exact ⟨_, _, rfl, rfl, hz, h.here R (.int _)⟩
    · exact h.not_bad.elim
  · exact h.not_bad.elim
def divV : SV → SV → Store → Rs SV
  | .d (.int i), .d (.int j), S => if 0 < j ∧ j < 1073741824 then .ok (.d (.int (i / j))) S else .bad
  | _, _, _ => .bad
theorem p_div {M : Mo} : P2 M (rI CDiv fun i j => .int (i / j)) divV := by
  intro W O σ H fr S G x y u v Q R rx ry h
  unfold divV at h
  split at h
  · obtain rfl := rx.int; obtain rfl := ry.int
    split at h
    · rename_i hz
      exact ⟨_, _, rfl, rfl, hz, h.here R (.int _)⟩
    · exact h.not_bad.elim
  · exact h.not_bad.elim
def powV : SV → SV → Store → Rs SV
  | .d (.int i), .d (.int j), S => if 0 ≤ j ∧ j ≤ 1000000 ∧ i.natAbs < 2 ^ 64 then .ok (.d (.int (i ^ j.toNat))) S else .bad
  | _, _, _ => .bad
theorem p_pow {M : Mo} : P2 M (rI CPow fun i j => .int (i ^ j.toNat)) powV := by
  intro W O σ H fr S G x y u v Q R rx ry h
  unfold powV at h
  split at h
  · obtain rfl := rx.int; obtain rfl := ry.int
    split at h
    · rename_i hz
      exact ⟨_, _, rfl, rfl, hz, h.here R (.int _)⟩
    · exact h.not_bad.elim
  · exact h.not_bad.elim
def negV : SV → Store → Rs SV
  | .d (.int i), S => .ok (.d (.int (-i))) S
  | _, _ => .bad
theorem p_neg {M : Mo} : P1 M (rU fun i => .int (-i)) negV := by
  intro W O σ H fr S G x u Q R rx h
  unfold negV at h
  split at h
  · obtain rfl := rx.int
    exact ⟨_, rfl, h.here R (.int _)⟩
  · exact h.not_bad.elim
def lstDiff : PyData → PyData → Bool
  | .list xs, .list ys => decide (xs.length ≠ ys.length)
  | .tuple (_ :: _), .tuple [] => true
  | .tuple [], .tuple (_ :: _) => true
  | _, _ => false
def eqOk (d e : PyData) : Bool := (d.canLay0 && e.canLay0 && decide (min d.depth e.depth ≤ 190)) || lstDiff d e
theorem eqvAll_len : ∀ {xs ys : List PyData}, xs.length ≠ ys.length → PyData.eqvAll xs ys = false
  | [], [], h => absurd rfl h
  | [], _ :: _, _ => rfl
  | _ :: _, [], _ => rfl
  | x :: xs, y :: ys, h => by
    rw [PyData.eqvAll, eqvAll_len (fun e => h (by simp [e]))]
    simp
def eqV (neg : Bool) : SV → SV → Store → Rs SV
  | .d (.str x), .d (.str y), S => .ok (.d (.bool (neg ^^ decide (x = y)))) S
  | .d x, .d y, S => if eqOk x y = true then .ok (.d (.bool (neg ^^ PyData.eqv x y))) S else .bad
  | _, _, _ => .bad
def eqR (X : Cx) (neg : Bool) : R2 := fun x y H Q => (∃ i j, x = .str i ∧ y = .str j ∧ Q (.bl (neg ^^ decide (i = j))) H) ∨ ∃ F F' d e, Rp (.of X) F H d x ∧ Rp (.of X) F' H e y ∧ eqOk d e = true ∧ Q (.bl (neg ^^ PyData.eqv d e)) H
theorem room190 {k : Nat} {A : Around} (hr : Room k A) {n : Nat} (h : n ≤ 190) : A.units + n < cLine := by
  have := hr.un
  omega
theorem strs_dec (i j : Str) : decide (V.str i = V.str j) = decide (i = j) := by
  rw [Bool.eq_iff_iff]
  simp
theorem diff_lists {X : Cx} {pins : List (Addr × Obj)} {σ : L2.St} {H : Hp} {s : Shared} {F F' : Addr → Prop} {d e : PyData} {x y : V} {u v : Value} (I : Inv X pins σ H s) (hd : Rp (.of X) F H d x) (he : Rp (.of X) F' H e y) (rx : RelV x u) (ry : RelV y v) (h : lstDiff d e = true) :
    PyData.eqv d e = false ∧ ∃ l b, u = .ref l ∧ v = .ref b ∧ ∀ A : Around, A.units < cLine → SeqAt.RcAt A s (.ref l) (.ref b) false ∧ SeqAt.RcNeAt A s (.ref l) (.ref b) true := by
  unfold lstDiff at h
  split at h
  · rename_i xs ys
    cases hd with
    | @lst a vs _ f q r =>
      cases he with
      | @lst b us _ f' q' r' =>
        obtain ⟨its, rv, pl, _⟩ := I.list (.inl (.inl q))
        obtain ⟨its2, rv2, pl2, _⟩ := I.list (.inl (.inl q'))
        have ne : its.toArray.size ≠ its2.toArray.size := by
          have h1 := rv.length
          have h2 := rv2.length
          have h3 := r.length
          have h4 := r'.length
          have := of_decide_eq_true h
          simp only [List.size_toArray]
          omega
        refine ⟨by rw [PyData.eqv, eqvAll_len (of_decide_eq_true h)], a, b, rx, ry, fun A hu => ⟨?_, ?_⟩⟩
        · exact SeqAt.RcAt.lists_lengths pl.isList pl2.isList (by simpa using ne) hu
        · exact SeqAt.RcNeAt.lists_lengths pl.isList pl2.isList (by simpa using ne) hu
  · rename_i x xs
    cases hd with
    | @tup a vs _ q r =>
      cases he with
      | @tup b us _ q' r' =>
        obtain ⟨its, rv, pl, _⟩ := I.tuple q
        obtain ⟨its2, rv2, pl2, _⟩ := I.tuple q'
        have h1 := rv.length
        have h2 := rv2.length
        have h3 := r.length
        have h4 := r'.length
        have z2 : its2.toArray.size = 0 := by simp only [List.size_toArray]; simp at h4; omega
        have z1 : its.toArray.size ≠ 0 := by simp only [List.size_toArray]; simp at h3; omega
        have eb : ((List.range (min its.toArray.size its2.toArray.size)).all (fun _ => true) && its.toArray.size == its2.toArray.size) = false := by
          rw [z2]
          simp
          simpa using z1
        refine ⟨rfl, a, b, rx, ry, fun A hu => ⟨?_, ?_⟩⟩
        · have := SeqAt.RcAt.tuples (A := A) (e := fun _ => true) pl pl2 hu (fun j h1 h2 => absurd h2 (by omega))
          rw [eb] at this
          exact this
        · have := SeqAt.RcNeAt.tuples (A := A) (e := fun _ => true) pl pl2 hu (fun j h1 h2 => absurd h2 (by omega))
          rw [eb] at this
          exact this
  · rename_i x xs
    cases hd with
    | @tup a vs _ q r =>
      cases he with
      | @tup b us _ q' r' =>
        obtain ⟨its, rv, pl, _⟩ := I.tuple q
        obtain ⟨its2, rv2, pl2, _⟩ := I.tuple q'
        have h1 := rv.length
        have h2 := rv2.length
        have h3 := r.length
        have h4 := r'.length
        have z2 : its.toArray.size = 0 := by simp only [List.size_toArray]; simp at h3; omega
        have z1 : its2.toArray.size ≠ 0 := by simp only [List.size_toArray]; simp at h4; omega
        have eb : ((List.range (min its.toArray.size its2.toArray.size)).all (fun _ => true) && its.toArray.size == its2.toArray.size) = false := by
          rw [z2]
          simp
          exact fun e => z1 (by simpa using e.symm)
        refine ⟨rfl, a, b, rx, ry, fun A hu => ⟨?_, ?_⟩⟩
        · have := SeqAt.RcAt.tuples (A := A) (e := fun _ => true) pl pl2 hu (fun j h1 h2 => absurd h1 (by omega))
          rw [eb] at this
          exact this
        · have := SeqAt.RcNeAt.tuples (A := A) (e := fun _ => true) pl pl2 hu (fun j h1 h2 => absurd h1 (by omega))
          rw [eb] at this
          exact this
  · cases h
theorem op_eqR {X : Cx} {k : Nat} (hr : Room k X.A) : OpR X (compareOp .Eq) (eqR X false) := by
  intro pins s σ H x y v u Q I rx ry h
  rcases h with ⟨i, j, rfl, rfl, q⟩ | ⟨F, F', d, e, hd, he, ok, q⟩
  · exact op_eq pins s σ H _ _ v u Q I rx ry ⟨rfl, by rw [strs_dec]; simpa using q⟩
  simp only [eqOk, Bool.or_eq_true, Bool.and_eq_true, decide_eq_true_eq] at ok
  rcases ok with ok | ok
  · obtain ⟨as, r1⟩ := hd.reads I rx
    obtain ⟨bs, r2⟩ := he.reads I ry
    exact SeqAt.compareEq_reads r1 r2 ok.1.1 ok.1.2 (room190 hr ok.2) ⟨.bl _, H, I, rfl, by simpa using q⟩
  · obtain ⟨ef, l, b, e1, e2, h1⟩ := diff_lists I hd he rx ry ok
    subst e1 e2
    rw [ef] at q
    exact (h1 X.A (by have := hr.un; omega)).1 X.prog X.w X.xe (EP X pins σ Q) ⟨.bl _, H, I, rfl, by simpa using q⟩
theorem op_neR {X : Cx} {k : Nat} (hr : Room k X.A) : OpR X (compareOp .NotEq) (eqR X true) := by
  intro pins s σ H x y v u Q I rx ry h
  rcases h with ⟨i, j, rfl, rfl, q⟩ | ⟨F, F', d, e, hd, he, ok, q⟩
  · exact op_ne pins s σ H _ _ v u Q I rx ry ⟨rfl, by rw [strs_dec]; simpa using q⟩
  simp only [eqOk, Bool.or_eq_true, Bool.and_eq_true, decide_eq_true_eq] at ok
  rcases ok with ok | ok
  · obtain ⟨as, r1⟩ := hd.reads I rx
    obtain ⟨bs, r2⟩ := he.reads I ry
    exact SeqAt.compareNe_reads r1 r2 ok.1.1 ok.1.2 (room190 hr ok.2) ⟨.bl _, H, I, rfl, by simpa using q⟩
  · obtain ⟨ef, l, b, e1, e2, h1⟩ := diff_lists I hd he rx ry ok
    subst e1 e2
    rw [ef] at q
    exact (h1 X.A (by have := hr.un; omega)).2 X.prog X.w X.xe (EP X pins σ Q) ⟨.bl _, H, I, rfl, by simpa using q⟩
theorem p_eq {X : Cx} {neg : Bool} : P2 (.of X) (eqR X neg) (eqV neg) := by
  intro W O σ H fr S G x y u v Q R rx ry h
  unfold eqV at h
  split at h
  · obtain rfl := rx.str; obtain rfl := ry.str
    exact .inl ⟨_, _, rfl, rfl, h.here R (.bl _)⟩
  · split at h
    · rename_i hz
      obtain ⟨_, rx⟩ := rx.any
      obtain ⟨_, ry⟩ := ry.any
      exact .inr ⟨_, _, _, _, rx, ry, hz, h.here R (.bl _)⟩
    · exact h.not_bad.elim
  · exact h.not_bad.elim
def inOk (d : PyData) (ds : List PyData) : Bool := PyData.canLayAll0 ds && d.canLay0 && decide (min (PyData.depthAll ds) d.depth ≤ 189)
def inV (neg : Bool) : SV → SV → Store → Rs SV
  | .d (.str c), .d (.str z), S => .ok (.d (.bool (neg ^^ !(Builtin.Str.occurrences z c 0 z.length 1).isEmpty))) S
  | .d x, .d (.list ds), S => if inOk x ds = true then .ok (.d (.bool (neg ^^ ds.any fun y => PyData.eqv y x))) S else .bad
  | .d x, .d (.tuple ds), S => if inOk x ds = true then .ok (.d (.bool (neg ^^ ds.any fun y => PyData.eqv y x))) S else .bad
  | _, _, _ => .bad
def inR (X : Cx) (neg : Bool) : R2 := fun x y H Q => (∃ i j, x = .str i ∧ y = .str j ∧ Q (.bl (neg ^^ !(Builtin.Str.occurrences j i 0 j.length 1).isEmpty)) H) ∨
  ∃ F F' d ds, Rp (.of X) F H d x ∧ (Rp (.of X) F' H (.list ds) y ∨ Rp (.of X) F' H (.tuple ds) y) ∧ inOk d ds = true ∧ Q (.bl (neg ^^ ds.any fun y => PyData.eqv y d)) H
theorem op_inR {X : Cx} {k : Nat} (hr : Room k X.A) : OpR X (compareOp .In) (inR X false) := by
  intro pins s σ H x y v u Q I rx ry h
  rcases h with ⟨i, j, e1, e2, q⟩ | ⟨F, F', d, ds, hd, he, ok, q⟩
  · exact op_in_str pins s σ H x y v u Q I rx ry ⟨i, j, e1, e2, by simpa using q⟩
  · obtain ⟨as, r1⟩ := hd.reads I rx
    simp only [inOk, Bool.and_eq_true, decide_eq_true_eq] at ok
    have hu : X.A.units + 1 + min (PyData.depthAll ds) d.depth < cLine := by
      have := room190 hr (n := 1 + min (PyData.depthAll ds) d.depth) (by omega)
      omega
    rcases he with he | he
    · obtain ⟨bs, r2⟩ := he.reads I ry
      exact SeqAt.in_list_reads r2 r1 ok.1.1 ok.1.2 hu ⟨.bl _, H, I, rfl, by simpa using q⟩
    · obtain ⟨bs, r2⟩ := he.reads I ry
      exact SeqAt.in_tuple_reads r2 r1 ok.1.1 ok.1.2 hu ⟨.bl _, H, I, rfl, by simpa using q⟩
theorem p_in {X : Cx} {neg : Bool} : P2 (.of X) (inR X neg) (inV neg) := by
  intro W O σ H fr S G x y u v Q R rx ry h
  unfold inV at h
  split at h
  · obtain rfl := rx.str; obtain rfl := ry.str
    exact .inl ⟨_, _, rfl, rfl, h.here R (.bl _)⟩
  · split at h
    · rename_i hz
      obtain ⟨_, rx⟩ := rx.any
      obtain ⟨_, ry⟩ := ry.any
      exact .inr ⟨_, _, _, _, rx, .inl ry, hz, h.here R (.bl _)⟩
    · exact h.not_bad.elim
  · split at h
    · rename_i hz
      obtain ⟨_, rx⟩ := rx.any
      obtain ⟨_, ry⟩ := ry.any
      exact .inr ⟨_, _, _, _, rx, .inr ry, hz, h.here R (.bl _)⟩
    · exact h.not_bad.elim
  · exact h.not_bad.elim
end PD
namespace PD
open PySem PySem.Spec PyProof.Rows L2
def isNone : SV → Bool
  | .d .none => true
  | _ => false
def isV (neg : Bool) : SV → SV → Store → Rs SV
  | x, .d .none, S => .ok (.d (.bool (neg ^^ isNone x))) S
  | _, _, _ => .bad
theorem isNone_rel {M : Mo} {G : Gh} {H : Hp} {x : SV} {u : V} (r : RpV M G H x u) : isNone x = decide (u = .non) := by
  cases r with
  | own _ _ _ => simp [isNone]
  | ownD _ _ => simp [isNone]
  | val r =>
  cases x with
  | d x => cases r <;> simp [isNone]
  | obj n =>
    obtain ⟨a, _, e⟩ := r
    subst e
    simp [isNone]
  | scr ns =>
    obtain ⟨a, e, _⟩ := r
    subst e
    simp [isNone]
theorem p_is {M : Mo} : P2 M (fun x y H Q => y = .non ∧ Q (.bl (decide (x = .non))) H) (isV false) := by
  intro W O σ H fr S G x y u v Q R rx ry h
  unfold isV at h
  split at h
  · obtain rfl := ry.non
    refine ⟨rfl, ?_⟩
    rw [← isNone_rel rx]
    simp only [Bool.false_xor] at h
    exact h.here R (Rp.bl _)
  · exact h.not_bad.elim
theorem RpAll.atI {M : Mo} {F : Addr → Prop} {H : Hp} {ds : List PyData} {vs : List V} {i : Int} {d : PyData} (r : RpAll M F H ds vs) (h : L2.atI ds i = some d) : ∃ v, L2.atI vs i = some v ∧ Rp M F H d v := by
  unfold L2.atI at h ⊢
  rw [← r.length]
  cases e : ixN ds.length i with
  | none => rw [e] at h; cases h
  | some j =>
    rw [e] at h
    exact r.get h
theorem RpSs.atI {M : Mo} {G : Gh} {H : Hp} {ds : List SV} {vs : List V} {i : Int} {d : SV} (r : RpSs M G H ds vs) (h : L2.atI ds i = some d) : ∃ v, L2.atI vs i = some v ∧ RpS M G H d v := by
  have hl : ds.length = vs.length := Paired.length r
  have hg : ∀ {xs : List SV} {us : List V} {j : Nat}, RpSs M G H xs us → xs[j]? = some d → ∃ v, us[j]? = some v ∧ RpS M G H d v := by
    intro xs us j r
    induction r generalizing j with
    | nil => intro e; simp at e
    | cons q t ih =>
      intro e
      cases j with
      | zero =>
        simp at e
        subst e
        exact ⟨_, by simp, q⟩
      | succ j =>
        obtain ⟨v, h1, h2⟩ := ih (by simpa using e)
        exact ⟨v, by simpa using h1, h2⟩
  unfold L2.atI at h ⊢
  rw [← hl]
  cases e : ixN ds.length i with
  | none => rw [e] at h; cases h
  | some j =>
    rw [e] at h
    exact hg r h
def ixV : SV → SV → Store → Rs SV
  | .d (.list ds), .d (.int i), S => match L2.atI ds i with
    | some d => .ok (.d d) S
    | none => .bad
  | .d (.tuple ds), .d (.int i), S => match L2.atI ds i with
    | some d => .ok (.d d) S
    | none => .bad
  | .d (.str z), .d (.int i), S => match L2.atI z.cps.toList i with
    | some c => if z.length ≤ sizeLine then .ok (.d (.str ⟨#[c]⟩)) S else .bad
    | none => .bad
  | .obj r, .d (.int i), S => match S[r]? with
    | some (.lst xs) => (match L2.atI xs i with
      | some d => .ok d S
      | none => .bad)
    | _ => .bad
  | _, _, _ => .bad
theorem Base.store_at {M : Mo} {H : Hp} {S : Store} {G : Gh} (B : Base M H S G) {r : Nat} {o : Ob} {u : V} (h : S[r]? = some o) (q : RpS M G H (.obj r) u) : ∃ a, u = .ref a ∧ ObR M G H o a ∧ G.rho[r]? = some a := by
  obtain ⟨a, e, z⟩ := q
  exact ⟨a, z, B.ob r o a h e, e⟩
theorem p_ix {M : Mo} : P2 M (rIx M.K) ixV := by
  intro W O σ H fr S G x y u v Q R rx ry h
  unfold ixV at h
  split at h
  · obtain rfl := ry.int
    split at h
    · rename_i hz
      obtain ⟨_, _, rfl, h1, r1⟩ := rx.lst
      obtain ⟨w, hw, rw'⟩ := r1.atI hz
      exact .inl ⟨_, _, _, w, rfl, rfl, SqL.of h1, hw, h.here R rw'⟩
    · exact h.not_bad.elim
  · obtain rfl := ry.int
    split at h
    · rename_i hz
      obtain ⟨_, _, rfl, h1, r1⟩ := rx.tup
      obtain ⟨w, hw, rw'⟩ := r1.atI hz
      exact .inr (.inl ⟨_, _, _, w, rfl, rfl, h1, hw, h.here R rw'⟩)
    · exact h.not_bad.elim
  · obtain rfl := ry.int
    split at h
    · rename_i hz
      split at h
      · rename_i hl
        obtain rfl := rx.str
        exact .inr (.inr ⟨_, _, _, rfl, rfl, hl, hz, h.here R (.str _)⟩)
      · exact h.not_bad.elim
    · exact h.not_bad.elim
  · obtain rfl := ry.int
    split at h
    · rename_i hs
      split at h
      · rename_i hz
        obtain ⟨a, rfl, ⟨vs, e, rs⟩, _⟩ := R.base.store_at hs rx.obj
        obtain ⟨w, hw, rw'⟩ := rs.atI hz
        exact .inl ⟨_, _, _, w, rfl, rfl, SqL.of e, hw, h.here R rw'⟩
      · exact h.not_bad.elim
    · exact h.not_bad.elim
  · exact h.not_bad.elim
abbrev OMt := Fr → Store → Rs (Option Int)
def tO (M : Mo) (W : WX) (O : Own) (m : OMt) : TO := fun σ H Q => ∃ fr S G, Rel M O σ H fr S G ∧ Pst M W O σ H fr G (m fr S) (fun _ _ b c => b = c) Q
def CO (X : Cx) (W : WX) (O : Own) (e : Option Expr) (m : OMt) : Prop := PO X e (tO (.of X) W O m)
def oN : OMt := fun _ S => .ok none S
def oS (m : EM) : OMt := fun fr S => (m fr S).bind fun x S1 => match x with
  | .d (.int i) => .ok (some i) S1
  | _ => .bad
theorem poI {X : Cx} {e : Option Expr} {t t' : TO} (h : PO X e t) (i : ∀ σ H Q, t' σ H Q → t σ H Q) : PO X e t' := ⟨fun pins s σ H Q I q => h.run pins s σ H Q I (i σ H Q q)⟩
section
variable {X : Cx} {W : WX} {O : Own} {pos p2 : Pos}
theorem co_none : CO X W O none oN := poI po_none fun σ H Q ⟨fr, S, G, R, h⟩ => h.here R rfl
theorem co_some {e : Expr} {m : EM} (h : CE X W O e m) : CO X W O (some e) (oS m) := poI (po_some h) fun σ H Q ⟨fr, S, G, R, h⟩ => ⟨fr, S, G, R, h.split fun x S1 u H1 G1 R1 st1 rx h1 => by
  split at h1
  · cases rx
    exact ⟨_, rfl, h1.here R1 rfl⟩
  · exact h1.not_bad.elim⟩
def cutD (xs : List PyData) (lo hi : Option Int) : List PyData := (xs.drop (HT.sIx xs.length 0 lo)).take (HT.sIx xs.length xs.length hi - HT.sIx xs.length 0 lo)
theorem RpAll.drop {M : Mo} {F : Addr → Prop} {H : Hp} : ∀ {ds : List PyData} {vs : List V} (n : Nat), RpAll M F H ds vs → RpAll M F H (ds.drop n) (vs.drop n)
  | _, _, 0, r => by simpa using r
  | _, _, _ + 1, .nil => by simpa using RpAll.nil
  | _, _, n + 1, .cons _ t => by simpa using RpAll.drop n t
theorem RpAll.take {M : Mo} {F : Addr → Prop} {H : Hp} : ∀ {ds : List PyData} {vs : List V} (n : Nat), RpAll M F H ds vs → RpAll M F H (ds.take n) (vs.take n)
  | _, _, 0, r => by simpa using RpAll.nil
  | _, _, _ + 1, .nil => by simpa using RpAll.nil
  | _, _, n + 1, .cons r t => by simpa using RpAll.cons r (RpAll.take n t)
theorem RpAll.cut {M : Mo} {F : Addr → Prop} {H : Hp} {ds : List PyData} {vs : List V} {lo hi : Option Int} (r : RpAll M F H ds vs) : RpAll M F H (cutD ds lo hi) (cutV vs lo hi) := by
  unfold cutD cutV
  rw [← r.length]
  exact (r.drop _).take _
def cutI (xs : List Int) (lo hi : Option Int) : List Int := (xs.drop (HT.sIx xs.length 0 lo)).take (HT.sIx xs.length xs.length hi - HT.sIx xs.length 0 lo)
theorem cutV_ints (ns : List Int) (lo hi : Option Int) : cutV (ns.map V.int) lo hi = (cutI ns lo hi).map V.int := by
  unfold cutV cutI
  rw [List.length_map, List.map_take, List.map_drop]
theorem RpAll.ints {M : Mo} {F : Addr → Prop} {H : Hp} : ∀ ns : List Int, RpAll M F H (ns.map .int) (ns.map V.int)
  | [] => .nil
  | n :: ns => .cons (.int n) (RpAll.ints ns)
def slV (x : SV) (lo hi : Option Int) (S : Store) : Rs SV := match x with
  | .d (.list ds) => .ok (.d (.list (cutD ds lo hi))) S
  | .d (.tuple ds) => .ok (.d (.tuple (cutD ds lo hi))) S
  | .d (.str z) => if z.length ≤ sizeLine then .ok (.d (.str (cutS z lo hi))) S else .bad
  | .scr ns => .ok (.d (.list ((cutI ns lo hi).map .int))) S
  | _ => .bad
def eSl (a : EM) (l u : OMt) : EM := fun fr S => (a fr S).bind fun x S1 => (l fr S1).bind fun lo S2 => (u fr S2).bind fun hi S3 => slV x lo hi S3
theorem cutD_all (ds : List PyData) (lo hi : Option Int) (h : HT.sIx ds.length 0 lo = 0 ∧ HT.sIx ds.length ds.length hi = ds.length) : cutD ds lo hi = ds := by
  unfold cutD
  rw [h.1, h.2]
  simp
theorem ce_slice {e : Expr} {lo hi : Option Expr} {m : EM} {l u : OMt} (he : CV X W O e m) (hl : CO X W O lo l) (hu : CO X W O hi u) : CE X W O (.Subscript e (.Slice lo hi none p2) pos) (eSl m l u) :=
  peI (pe_slice (sl_list.or (sl_tupA.or sl_str)) he hl hu) fun σ H Q ⟨fr, S, G, R, h⟩ => ⟨fr, S, G, R, h.split fun x S1 v H1 G1 R1 st1 rx h1 => ⟨fr, S1, G1, R1, h1.split fun lo S2 lo' H2 G2 R2 st2 e2 h2 => ⟨fr, S2, G2, R2, h2.split fun hi S3 hi' H3 G3 R3 st3 e3 h3 => by
    subst e2 e3
    have rx3 := rx.step R1.base (st2.trans st3)
    unfold slV at h3
    split at h3
    · obtain ⟨_, _, rfl, q, r⟩ := rx3.lst
      refine .inl ⟨_, _, rfl, SqL.of q, fun p hp => ?_⟩
      obtain ⟨G4, R4, st4, q4⟩ := R3.newL hp r.cut
      exact h3.fin R4 st4 q4
    · obtain ⟨_, _, rfl, q, r⟩ := rx3.tup
      refine .inr (.inl ⟨_, _, rfl, q, fun e => ?_, fun _ p hp => ?_⟩)
      · rw [← r.length] at e
        rw [cutD_all _ _ _ e] at h3
        exact h3.here R3 (.tup q r)
      · obtain ⟨R4, st4, q4⟩ := R3.newT hp r.cut
        exact h3.fin R4 st4 q4
    · split at h3
      · rename_i hz
        obtain rfl := rx3.str
        exact .inr (.inr ⟨_, rfl, hz, h3.here R3 (.str _)⟩)
      · exact h3.not_bad.elim
    · cases rx3 with
      | val rx3 =>
        obtain ⟨a, rfl, q⟩ := rx3
        refine .inl ⟨_, _, rfl, q.sq, fun p hp => ?_⟩
        rw [cutV_ints]
        obtain ⟨G4, R4, st4, q4⟩ := R3.newL hp (RpAll.ints (cutI _ lo hi))
        exact h3.fin R4 st4 q4
    · exact h3.not_bad.elim⟩⟩⟩
theorem CallR.or {f : Value} {r r' : List V → Hp → VK → Prop} (h : CallR X f r) (h' : CallR X f r') : CallR X f (fun xs H Q => r xs H Q ∨ r' xs H Q) := by
  intro pins s σ H xs us Q I rx q
  rcases q with q | q
  · exact h pins s σ H xs us Q I rx q
  · exact h' pins s σ H xs us Q I rx q
theorem ce_callB {id : String} {r : List V → Hp → VK → Prop} {p : List SV → Store → Rs SV} {x : Str} {q : Pos} {e : Expr} {es : List Expr} {m : AM} (hc : CallR X (.builtin id) r) (hp : PN (.of X) r p) (hg : Gl X x) (hm : X.mg x = none) (hv : bootBuiltins x = some (.builtin id)) (ha : CAV X W O (e :: es) m)
    (hn : x ≠ "__name__" := by decide) (hdb : (x == ("__debug__" : Str)) = false := by decide)
    (he : starEach (e :: es) X.env = (false, eval e X.env) :: starEach es X.env := by rfl) (hpl : (backTo pos (starEach es X.env)).any (·.1) = false := by rfl) : CE X W O (.Call (.Name x q) (e :: es) [] pos) (eA p m) :=
  peI (pe_callB hc hg hm hv ha hn hdb he hpl) fun σ H Q ⟨fr, S, G, R, h⟩ => ⟨fr, S, G, R, h.split fun xs S1 us H1 G1 R1 st1 rs h1 => hp R1 rs h1⟩
theorem ce_callTy {T : String} {r : List V → Hp → VK → Prop} {p : List SV → Store → Rs SV} {x : Str} {q : Pos} {e : Expr} {es : List Expr} {m : AM} (hc : CallR X (.type T) r) (hp : PN (.of X) r p) (hg : Gl X x) (hm : X.mg x = none) (hv : bootBuiltins x = some (.type T)) (ha : CAV X W O (e :: es) m)
    (hn : x ≠ "__name__" := by decide) (hdb : (x == ("__debug__" : Str)) = false := by decide)
    (he : starEach (e :: es) X.env = (false, eval e X.env) :: starEach es X.env := by rfl) (hpl : (backTo pos (starEach es X.env)).any (·.1) = false := by rfl) : CE X W O (.Call (.Name x q) (e :: es) [] pos) (eA p m) :=
  peI (pe_callTy hc hg hm hv ha hn hdb he hpl) fun σ H Q ⟨fr, S, G, R, h⟩ => ⟨fr, S, G, R, h.split fun xs S1 us H1 G1 R1 st1 rs h1 => hp R1 rs h1⟩
end
theorem RpVs.one {M : Mo} {G : Gh} {H : Hp} {x : SV} {us : List V} (r : RpVs M G H [x] us) : ∃ u, us = [u] ∧ RpV M G H x u := by
  cases r with
  | cons q t => cases t; exact ⟨_, rfl, q⟩
theorem RpVs.two {M : Mo} {G : Gh} {H : Hp} {x y : SV} {us : List V} (r : RpVs M G H [x, y] us) : ∃ u v, us = [u, v] ∧ RpV M G H x u ∧ RpV M G H y v := by
  cases r with
  | cons q t =>
    cases t with
    | cons q' t => cases t; exact ⟨_, _, rfl, q, q'⟩
theorem RpSs.one {M : Mo} {G : Gh} {H : Hp} {x : SV} {us : List V} (r : RpSs M G H [x] us) : ∃ u, us = [u] ∧ RpS M G H x u := by
  cases r with
  | cons q t => cases t; exact ⟨_, rfl, q⟩
theorem RpSs.two {M : Mo} {G : Gh} {H : Hp} {x y : SV} {us : List V} (r : RpSs M G H [x, y] us) : ∃ u v, us = [u, v] ∧ RpS M G H x u ∧ RpS M G H y v := by
  cases r with
  | cons q t =>
    cases t with
    | cons q' t => cases t; exact ⟨_, _, rfl, q, q'⟩
def lenV : List SV → Store → Rs SV
  | [.d (.list ds)], S => .ok (.d (.int ds.length)) S
  | [.d (.tuple ds)], S => .ok (.d (.int ds.length)) S
  | [.d (.str z)], S => if z.length ≤ sizeLine then .ok (.d (.int z.length)) S else .bad
  | [.obj r], S => match S[r]? with
    | some (.lst xs) => .ok (.d (.int xs.length)) S
    | _ => .bad
  | _, _ => .bad
theorem p_len {M : Mo} : PN M (fun xs H Q => ∃ x n, xs = [x] ∧ LenV M.K x H n ∧ Q (.int n) H) lenV := by
  intro W O σ H fr S G xs us Q R rs h
  unfold lenV at h
  split at h
  · obtain ⟨u, rfl, ru⟩ := rs.one
    obtain ⟨_, _, rfl, q, r⟩ := ru.lst
    rw [r.length] at h
    exact ⟨_, _, rfl, .inl ⟨_, SqL.of q, rfl⟩, h.here R (.int _)⟩
  · obtain ⟨u, rfl, ru⟩ := rs.one
    obtain ⟨_, _, rfl, q, r⟩ := ru.tup
    rw [r.length] at h
    exact ⟨_, _, rfl, .inr ⟨_, q, rfl⟩, h.here R (.int _)⟩
  · split at h
    · rename_i hz
      obtain ⟨u, rfl, ru⟩ := rs.one
      obtain rfl := ru.str
      exact ⟨_, _, rfl, ⟨hz, rfl⟩, h.here R (.int _)⟩
    · exact h.not_bad.elim
  · split at h
    · rename_i hs
      obtain ⟨u, rfl, ru⟩ := rs.one
      obtain ⟨a, rfl, ⟨vs, e, rv⟩, _⟩ := R.base.store_at hs ru.obj
      rw [show _ = vs.length from Paired.length rv] at h
      exact ⟨_, _, rfl, .inl ⟨_, SqL.of e, rfl⟩, h.here R (.int _)⟩
    · exact h.not_bad.elim
  · exact h.not_bad.elim
def intV : List SV → Store → Rs SV
  | [.d (.int i)], S => .ok (.d (.int i)) S
  | [.d (.bool b)], S => .ok (.d (.int (if b then 1 else 0))) S
  | [.d (.str z)], S => match PySem.intText? z with
    | some n => if z.length ≤ 640 then .ok (.d (.int n)) S else .bad
    | none => .bad
  | _, _ => .bad
def intR : List V → Hp → VK → Prop := fun xs H Q => ((∃ i, xs = [.int i] ∧ Q (.int i) H) ∨ ∃ k, xs = [.bl k] ∧ Q (.int (if k then 1 else 0)) H) ∨ ∃ a n, xs = [.str a] ∧ PySem.intText? a = some n ∧ a.length ≤ 640 ∧ Q (.int n) H
theorem call_intR {X : Cx} : CallR X (.type "int") intR := CallR.or call_int1 call_int_str
theorem p_int {M : Mo} : PN M intR intV := by
  intro W O σ H fr S G xs us Q R rs h
  unfold intV at h
  split at h
  · obtain ⟨u, rfl, ru⟩ := rs.one
    obtain rfl := ru.int
    exact .inl (.inl ⟨_, rfl, h.here R (.int _)⟩)
  · obtain ⟨u, rfl, ru⟩ := rs.one
    obtain rfl := ru.bl
    exact .inl (.inr ⟨_, rfl, h.here R (.int _)⟩)
  · split at h
    · rename_i hn
      split at h
      · rename_i hz
        obtain ⟨u, rfl, ru⟩ := rs.one
        obtain rfl := ru.str
        exact .inr ⟨_, _, rfl, hn, hz, h.here R (.int _)⟩
      · exact h.not_bad.elim
    · exact h.not_bad.elim
  · exact h.not_bad.elim
def absI : List SV → Store → Rs SV
  | [.d (.int i)], S => .ok (.d (.int (if i < 0 then -i else i))) S
  | _, _ => .bad
theorem p_abs {M : Mo} : PN M (fun xs H Q => ∃ i, xs = [.int i] ∧ Q (.int (if i < 0 then -i else i)) H) absI := by
  intro W O σ H fr S G xs us Q R rs h
  unfold absI at h
  split at h
  · obtain ⟨u, rfl, ru⟩ := rs.one
    obtain rfl := ru.int
    exact ⟨_, rfl, h.here R (.int _)⟩
  · exact h.not_bad.elim
def tupleV : List SV → Store → Rs SV
  | [.d (.list ds)], S => .ok (.d (.tuple ds)) S
  | [.d (.tuple ds)], S => .ok (.d (.tuple ds)) S
  | _, _ => .bad
theorem p_tuple {M : Mo} : PN M (fun xs H Q => ∃ p ys, xs = [.ref p] ∧ ((SqL M.K H p ys ∧ ∀ l, H l = none → Q (.ref l) (upd H l (.tup ys))) ∨ (SqT M.K H p ys ∧ Q (.ref p) H))) tupleV := by
  intro W O σ H fr S G xs us Q R rs h
  unfold tupleV at h
  split at h
  · obtain ⟨u, rfl, ru⟩ := rs.one
    obtain ⟨_, _, rfl, q, r⟩ := ru.lst
    refine ⟨_, _, rfl, .inl ⟨SqL.of q, fun p hp => ?_⟩⟩
    obtain ⟨R2, st2, q2⟩ := R.newT hp r
    exact h.fin R2 st2 q2
  · obtain ⟨u, rfl, ru⟩ := rs.one
    obtain ⟨_, _, rfl, q, r⟩ := ru.tup
    exact ⟨_, _, rfl, .inr ⟨q, h.here R (.tup q r)⟩⟩
  · exact h.not_bad.elim
def listV : List SV → Store → Rs SV
  | [.d (.list ds)], S => .ok (.d (.list ds)) S
  | [.d (.tuple ds)], S => .ok (.d (.list ds)) S
  | _, _ => .bad
def strV : List SV → Store → Rs SV
  | [.d (.int i)], S => if i.natAbs.log2 < 1920 then .ok (.d (.str (toString i))) S else .bad
  | [.d (.str z)], S => .ok (.d (.str z)) S
  | _, _ => .bad
def reprOk (d : PyData) : Bool := d.showable && !d.hasDict && decide (d.depth ≤ 180) && decide (d.shown.length ≤ sizeLine)
def ownL (fr : Fr) (i : Nat) : Option (List PyData) := match fr[i]? with
  | some (some (.d (.list ds))) => some ds
  | _ => none
theorem ownL_some {fr : Fr} {i : Nat} {ds : List PyData} (h : ownL fr i = some ds) : fr[i]? = some (some (.d (.list ds))) := by
  unfold ownL at h
  split at h
  · rename_i e
    cases h
    exact e
  · cases h
def eP (i : Nat) : EM := fun fr S => match ownL fr i with
  | some ds => .ok (.d (.list ds)) S
  | none => .bad
theorem cv_own {X : Cx} {W : WX} {O : Own} {pos : Pos} (i : Nat) {x : Str} (ho : (O[i]? == some true) = true := by rfl) (hN : X.N[i]? = some x := by rfl) (hv : Vis X.env.scope x := by first | exact Or.inl rfl | exact Or.inr (Or.inl rfl) | exact Or.inr (Or.inr rfl)) (hd : (x == ("__debug__" : Str)) = false := by decide)
    (hcd : (x == ("__classdict__" : Str)) = false := by decide) : CV X W O (.Name x pos) (eP i) := by
  refine peI (pe_var hN hv hd hcd) fun σ H Q ⟨fr, S, G, R, p⟩ => ?_
  have ho' : O.has i := by simpa [Own.has] using ho
  unfold eP at p
  split at p
  · rename_i ds hds
    obtain ⟨u, h1, h2, _⟩ := R.slot i _ (ownL_some hds)
    obtain ⟨a, e, nf, nr, h0, c⟩ := h2 ho'
    subst e
    refine ⟨_, h1, p.here R ?_⟩
    rcases c with ⟨es, xs, e, q, r⟩ | ⟨_, _, e, _⟩ | ⟨_, _, _, e, _⟩
    · cases e
      exact .own nr q r
    · cases e
    · cases e
  · exact p.not_bad.elim
end PD
namespace PD
open PySem PySem.Spec PyProof.Rows L2
def truthV : SV → Store → Option Bool
  | .d .none, _ => some false
  | .d (.bool b), _ => some b
  | .d (.int i), _ => some (i != 0)
  | .d (.str z), _ => if z.length ≤ sizeLine then some ((z.length : Int) != 0) else none
  | .d (.list ds), _ => some !ds.isEmpty
  | .d (.tuple ds), _ => some !ds.isEmpty
  | .obj r, S => match S[r]? with
    | some (.lst xs) => some !xs.isEmpty
    | _ => none
  | _, _ => none
def ofO {α : Type} : Option α → Store → Rs α
  | some a, S => .ok a S
  | none, _ => .bad
def bTr (m : EM) : TMt := fun fr S => (m fr S).bind fun x S1 => ofO (truthV x S1) S1
def boolV : SV → Option Bool
  | .d (.bool b) => some b
  | _ => none
def bB (m : EM) : TMt := fun fr S => (m fr S).bind fun x S1 => ofO (boolV x) S1
def bAnd (a b : TMt) : TMt := fun fr S => (a fr S).bind fun c S1 => if c = true then b fr S1 else .ok false S1
def bOr (a b : TMt) : TMt := fun fr S => (a fr S).bind fun c S1 => if c = true then .ok true S1 else b fr S1
def bNot (a : TMt) : TMt := fun fr S => (a fr S).bind fun c S1 => .ok (!c) S1
def eIf (c : TMt) (a b : EM) : EM := fun fr S => (c fr S).bind fun k S1 => if k = true then a fr S1 else b fr S1
def eAnd (a b : EM) : EM := fun fr S => (a fr S).bind fun x S1 => match boolV x with
  | some c => if c = true then b fr S1 else .ok (.d (.bool false)) S1
  | none => .bad
def eOr (a b : EM) : EM := fun fr S => (a fr S).bind fun x S1 => match boolV x with
  | some c => if c = true then .ok (.d (.bool true)) S1 else b fr S1
  | none => .bad
def eNot (a : EM) : EM := fun fr S => (a fr S).bind fun x S1 => match boolV x with
  | some c => .ok (.d (.bool !c)) S1
  | none => .bad
section
variable {X : Cx} {W : WX} {O : Own} {pos : Pos} {a b : Expr} {rest : List Expr}
theorem boolV_rel {M : Mo} {G : Gh} {H : Hp} {x : SV} {u : V} {c : Bool} (r : RpS M G H x u) (h : boolV x = some c) : u = .bl c := by
  unfold boolV at h
  split at h
  · cases r
    rw [Option.some.inj h]
  · cases h
theorem bB_of {m : EM} {σ : L2.St} {H : Hp} {Q : Bool → Hp → Prop} (h : tT (.of X) W O (bB m) σ H Q) : tM (.of X) W O m σ H fun x H1 => ∃ c, x = .bl c ∧ Q c H1 := by
  obtain ⟨fr, S, G, R, h⟩ := h
  refine ⟨fr, S, G, R, h.split fun x S1 u H1 G1 R1 st1 rx h1 => ?_⟩
  cases e : boolV x with
  | none => rw [e] at h1; exact h1.not_bad.elim
  | some c =>
    rw [e] at h1
    exact ⟨c, boolV_rel rx e, h1.here R1 rfl⟩
theorem ct_cmp {op : CmpOp} {r : R2} {p : SV → SV → Store → Rs SV} {ma mb : EM} (ho : OpR X (compareOp op) r) (hp : P2 (.of X) r p) (ha : CV X W O a ma) (hb : CV X W O b mb) (hm : behindInMarks op b = false) : CT X W O (.Compare a [op] [b] pos) (bB (e2 p ma mb)) :=
  ptI (pt_cmpR ho ha hb hm) fun σ H Q h => two hp (bB_of h)
theorem cw_and1 {m : TMt} (h : CT X W O a m) : CW X W O (.BoolOp .And [a] pos) m := pw_and1 h
theorem cw_and {m n : TMt} (h : CT X W O a m) (h2 : CW X W O (.BoolOp .And (b :: rest) pos) n) : CW X W O (.BoolOp .And (a :: b :: rest) pos) (bAnd m n) :=
  pwI (pw_and h h2) fun σ H Q ⟨fr, S, G, R, h⟩ => ⟨fr, S, G, R, h.split fun x S1 u H1 G1 R1 st1 rx h1 => by
    subst rx
    cases x with
    | true => exact ⟨fr, S1, G1, R1, by simpa using h1⟩
    | false => exact Pst.here (by simpa using h1) R1 rfl⟩
theorem ct_w {m : TMt} (h : CW X W O a m) : CT X W O a m := L2.PW.pt h
theorem ce_if {c : Expr} {mc : TMt} {ma mb : EM} (hc : CT X W O c mc) (ha : CE X W O a ma) (hb : CE X W O b mb) : CE X W O (.IfExp c a b pos) (eIf mc ma mb) :=
  peI (pe_ifExp hc ha hb) fun σ H Q ⟨fr, S, G, R, h⟩ => ⟨fr, S, G, R, h.split fun x S1 u H1 G1 R1 st1 rx h1 => by
    subst rx
    cases x with
    | true => simpa using ⟨fr, S1, G1, R1, by simpa using h1⟩
    | false => simpa using ⟨fr, S1, G1, R1, by simpa using h1⟩⟩
def eChain (p q : SV → SV → Store → Rs SV) (a b c : EM) : EM := fun fr S => (a fr S).bind fun x S1 => (b fr S1).bind fun y S2 => (p x y S2).bind fun z S3 => match boolV z with
  | some k => if k = true then (c fr S3).bind fun w S4 => q y w S4 else .ok (.d (.bool false)) S3
  | none => .bad
end
inductive SR where
  | nx (fr : Fr) (S : Store)
  | bk (fr : Fr) (S : Store)
  | ct (fr : Fr) (S : Store)
  | rt (v : SV) (S : Store)
  | exc (x : Exc) (fr : Fr) (S : Store)
  | bad
abbrev SM := Fr → Store → SR
def Rs.toS {α : Type} (fr : Fr) : Rs α → (α → Store → SR) → SR
  | .ok a S, f => f a S
  | .exc x S, _ => .exc x fr S
  | .bad, _ => .bad
def SR.next : SR → (Fr → Store → SR) → SR
  | .nx fr S, f => f fr S
  | r, _ => r
structure SPst (M : Mo) (W : WX) (L O' : Own) (H : Hp) (G : Gh) (r : SR) (D : Ends) : Prop where
  good : r ≠ .bad
  nx : ∀ fr' S', r = .nx fr' S' → ∀ σ' H' G', Rel M O' σ' H' fr' S' G' → Adv G H G' H' → D.nx σ' H'
  bk : ∀ fr' S', r = .bk fr' S' → ∀ σ' H' G', Rel M L σ' H' fr' S' G' → Adv G H G' H' → D.bk σ' H'
  ct : ∀ fr' S', r = .ct fr' S' → ∀ σ' H' G', Rel M L σ' H' fr' S' G' → Adv G H G' H' → D.ct σ' H'
  rt : ∀ v S', r = .rt v S' → ∀ u H' G', Base M H' S' G' → Adv G H G' H' → RpS M G' H' v u → D.rt u H'
  exc : ∀ x fr' S', r = .exc x fr' S' → ∀ σ' H' G' cls d, Rel M [] σ' H' fr' S' G' → Adv G H G' H' → XRep M G' H' x cls d → W cls d σ' H'
def tS (M : Mo) (W : WX) (L O O' : Own) (m : SM) : TS := fun D σ H => ∃ fr S G, Rel M O σ H fr S G ∧ SPst M W L O' H G (m fr S) D
def CS (X : Cx) (W : WX) (L O : Own) (st : Stmt) (m : SM) (O' : Own) : Prop := PS X st (tS (.of X) W L O O' m)
def CSs (X : Cx) (W : WX) (L O : Own) (st : List Stmt) (m : SM) (O' : Own) : Prop := PSs X st (tS (.of X) W L O O' m)
theorem psI {X : Cx} {e : Stmt} {t t' : TS} (h : PS X e t) (i : ∀ D σ H, t' D σ H → t D σ H) : PS X e t' := ⟨fun pins s σ H D I q => h.run pins s σ H D I (i D σ H q)⟩
theorem pssI {X : Cx} {e : List Stmt} {t t' : TS} (h : PSs X e t) (i : ∀ D σ H, t' D σ H → t D σ H) : PSs X e t' := ⟨fun pins s σ H D I q => h.run pins s σ H D I (i D σ H q)⟩
def Own.le (O' O : Own) : Bool := (List.range O'.length).all fun i => !(O'[i]? == some true) || (O[i]? == some true)
theorem Own.le_has {O' O : Own} (h : Own.le O' O = true) (i : Nat) (hi : O'.has i) : O.has i := by
  unfold Own.has at hi ⊢
  have hl : i < O'.length := (List.getElem?_eq_some_iff.mp hi).1
  unfold Own.le at h
  rw [List.all_eq_true] at h
  have q := h i (List.mem_range.mpr hl)
  rw [hi] at q
  simpa using q
section
variable {M : Mo} {W : WX} {L O O' : Own} {σ : L2.St} {H : Hp} {fr : Fr} {S : Store} {G : Gh} {D : Ends}
theorem SPst.expr {α β : Type} {r : Rs α} {f : α → Store → SR} {rel : Gh → Hp → α → β → Prop} {Q : β → Hp → Prop} (R : Rel M O σ H fr S G) (h : SPst M W L O' H G (r.toS fr f) D)
    (next : ∀ (z : α) (S1 : Store) (u : β) (H1 : Hp) (G1 : Gh), Rel M O σ H1 fr S1 G1 → Stp G H G1 H1 → Adv G H G1 H1 → rel G1 H1 z u → SPst M W L O' H1 G1 (f z S1) D → Q u H1) : Pst M W O σ H fr G r rel Q := by
  refine ⟨fun e => h.good (by rw [e]; rfl), fun z S1 e u H1 G1 R1 st1 q => ?_, fun x S1 e H1 G1 cls d R1 st1 q => ?_⟩
  · have hb : r.toS fr f = f z S1 := by rw [e]; rfl
    rw [hb] at h
    have a := R.base.adv st1
    exact next z S1 u H1 G1 R1 st1 a q ⟨h.good, fun fr' S' e' σ' H' G' R' a' => h.nx fr' S' e' σ' H' G' R' (a.trans a'), fun fr' S' e' σ' H' G' R' a' => h.bk fr' S' e' σ' H' G' R' (a.trans a'),
      fun fr' S' e' σ' H' G' R' a' => h.ct fr' S' e' σ' H' G' R' (a.trans a'), fun v S' e' u H' G' B' a' r' => h.rt v S' e' u H' G' B' (a.trans a') r', fun x fr' S' e' σ' H' G' cls d R' a' r' => h.exc x fr' S' e' σ' H' G' cls d R' (a.trans a') r'⟩
  · have a := R.base.adv st1
    obtain ⟨G2, R2, a2⟩ := R1.freeze [] (fun i h => by simp [Own.has] at h)
    refine h.exc x fr S1 (by rw [e]; rfl) σ H1 G2 cls d R2 (a.trans a2) ?_
    obtain ⟨ca, h1, h2, h3⟩ := q
    refine ⟨ca, h1, h2, ?_⟩
    rcases h3 with h3 | ⟨fs, da, vs, e1, e2, e3, e4⟩
    · exact .inl h3
    · exact .inr ⟨fs, da, vs, e1, e2, e3, RpF.keep a2.keeps a2.pre e4⟩
theorem SPst.on {r : SR} (h : SPst M W L O' H G r D) {H1 : Hp} {G1 : Gh} (a : Adv G H G1 H1) : SPst M W L O' H1 G1 r D :=
  ⟨h.good, fun fr' S' e' σ' H' G' R' a' => h.nx fr' S' e' σ' H' G' R' (a.trans a'), fun fr' S' e' σ' H' G' R' a' => h.bk fr' S' e' σ' H' G' R' (a.trans a'),
      fun fr' S' e' σ' H' G' R' a' => h.ct fr' S' e' σ' H' G' R' (a.trans a'), fun v S' e' u H' G' B' a' r' => h.rt v S' e' u H' G' B' (a.trans a') r', fun x fr' S' e' σ' H' G' cls d R' a' r' => h.exc x fr' S' e' σ' H' G' cls d R' (a.trans a') r'⟩
theorem SPst.split {r : SR} {f : Fr → Store → SR} {O2 : Own} {N : L2.St → Hp → Prop} (h : SPst M W L O2 H G (r.next f) D)
    (next : ∀ (fr1 : Fr) (S1 : Store) (σ1 : L2.St) (H1 : Hp) (G1 : Gh), Rel M O' σ1 H1 fr1 S1 G1 → SPst M W L O2 H1 G1 (f fr1 S1) D → N σ1 H1) : SPst M W L O' H G r { D with nx := N } := by
  refine ⟨fun e => h.good (by rw [e]; rfl), fun fr1 S1 e σ1 H1 G1 R1 a1 => ?_, fun fr' S' e => h.bk fr' S' (by rw [e]; rfl), fun fr' S' e => h.ct fr' S' (by rw [e]; rfl), fun v S' e => h.rt v S' (by rw [e]; rfl), fun x fr' S' e => h.exc x fr' S' (by rw [e]; rfl)⟩
  have hb : r.next f = f fr1 S1 := by rw [e]; rfl
  rw [hb] at h
  exact next fr1 S1 σ1 H1 G1 R1 (h.on a1)
end
def sNx : SM := fun fr S => .nx fr S
def sSeq (m n : SM) : SM := fun fr S => (m fr S).next fun fr1 S1 => n fr1 S1
def sIf (c : TMt) (m n : SM) : SM := fun fr S => (c fr S).toS fr fun k S1 => if k = true then m fr S1 else n fr S1
def sRet (m : EM) : SM := fun fr S => (m fr S).toS fr fun v S1 => .rt v S1
def sDrop (m : EM) : SM := fun fr S => (m fr S).toS fr fun _ S1 => .nx fr S1
section
variable {X : Cx} {W : WX} {L O O1 O' : Own} {pos : Pos}
theorem css_nil : CSs X W L O [] sNx O := pssI pss_nil fun D σ H ⟨fr, S, G, R, h⟩ => h.nx fr S rfl σ H G R Adv.refl
theorem css_one {st : Stmt} {m : SM} (h : CS X W L O st m O') : CSs X W L O [st] m O' := pss_one h
theorem css_cons {st : Stmt} {rest : List Stmt} {m n : SM} (h : CS X W L O st m O1) (hr : CSs X W L O1 rest n O') : CSs X W L O (st :: rest) (sSeq m n) O' :=
  pssI (pss_cons h hr) fun D σ H ⟨fr, S, G, R, h⟩ => ⟨fr, S, G, R, h.split fun fr1 S1 σ1 H1 G1 R1 h1 => ⟨fr1, S1, G1, R1, h1⟩⟩
theorem css_let (O1 : Own) {rest : List Stmt} {m : SM} (hr : CSs X W L O1 rest m O') (hle : Own.le O1 O = true := by rfl) : CSs X W L O rest m O' :=
  pssI hr fun D σ H ⟨fr, S, G, R, h⟩ => by
    obtain ⟨G1, R1, a1⟩ := R.freeze O1 (Own.le_has hle)
    exact ⟨fr, S, G1, R1, h.on a1⟩
theorem css_end (O1 : Own) {rest : List Stmt} {m : SM} (hr : CSs X W L O rest m O1) (hle : Own.le O' O1 = true := by rfl) : CSs X W L O rest m O' :=
  pssI hr fun D σ H ⟨fr, S, G, R, h⟩ => ⟨fr, S, G, R, ⟨h.good, fun fr' S' e σ' H' G' R' a' => by
    obtain ⟨G1, R1, a1⟩ := R'.freeze O' (Own.le_has hle)
    exact h.nx fr' S' e σ' H' G1 R1 (a'.trans a1), h.bk, h.ct, h.rt, h.exc⟩⟩
theorem cs_if {c : Expr} {a b : List Stmt} {mc : TMt} {m n : SM} (hc : CT X W O c mc) (ha : CSs X W L O a m O') (hb : CSs X W L O b n O') : CS X W L O (.If c a b pos) (sIf mc m n) O' :=
  psI (ps_if hc ha hb) fun D σ H ⟨fr, S, G, R, h⟩ => ⟨fr, S, G, R, h.expr R fun k S1 u H1 G1 R1 st1 a1 e h1 => by
    subst e
    cases k with
    | true => simpa using ⟨fr, S1, G1, R1, by simpa using h1⟩
    | false => simpa using ⟨fr, S1, G1, R1, by simpa using h1⟩⟩
theorem cs_ret {e : Expr} {m : EM} (he : CE X W O e m) : CS X W L O (.Return (some e) pos) (sRet m) O' :=
  psI (ps_ret he) fun D σ H ⟨fr, S, G, R, h⟩ => ⟨fr, S, G, R, h.expr R fun v S1 u H1 G1 R1 st1 a1 r h1 => h1.rt v S1 rfl u H1 G1 R1.base Adv.refl r⟩
end
abbrev GM := SV → Fr → Option Fr
abbrev GMs := List PyData → Fr → Option Fr
def Out (ts : List Nat) (σ σ' : L2.St) : Prop := σ'.length = σ.length ∧ ∀ k, k ∉ ts → σ'[k]? = σ[k]?
theorem Out.refl {ts : List Nat} {σ : L2.St} : Out ts σ σ := ⟨rfl, fun _ _ => rfl⟩
theorem Out.app {ts us : List Nat} {σ σ1 σ2 : L2.St} (a : Out ts σ σ1) (b : Out us σ1 σ2) : Out (ts ++ us) σ σ2 :=
  ⟨b.1.trans a.1, fun k h => by
    rw [List.mem_append, not_or] at h
    rw [b.2 k h.2, a.2 k h.1]⟩
def tG (M : Mo) (O O' : Own) (ts : List Nat) (g : GM) : TG := fun u σ H Q => ∃ v fr S G fr', Rel M O σ H fr S G ∧ RpS M G H v u ∧ g v fr = some fr' ∧ ∀ σ', Rel M O' σ' H fr' S G → Out ts σ σ' → Q σ' H
def tGs (M : Mo) (O O' : Own) (ts : List Nat) (g : GMs) : TGs := fun us σ H Q => ∃ vs fr S G fr', Rel M O σ H fr S G ∧ RpAll M G.F H vs us ∧ g vs fr = some fr' ∧ ∀ σ', Rel M O' σ' H fr' S G → Out ts σ σ' → Q σ' H
def CG (X : Cx) (O : Own) (e : Expr) (g : GM) (O' : Own) (ts : List Nat) : Prop := PG X e (tG (.of X) O O' ts g)
def CGs (X : Cx) (O : Own) (e : List Expr) (g : GMs) (O' : Own) (ts : List Nat) : Prop := PGs X e (tGs (.of X) O O' ts g)
theorem pgI {X : Cx} {e : Expr} {t t' : TG} (h : PG X e t) (i : ∀ u σ H Q, t' u σ H Q → t u σ H Q) : PG X e t' := by
  obtain ⟨f⟩ := h
  exact ⟨fun pins s σ H x u Q I r q => f pins s σ H x u Q I r (i x σ H Q q)⟩
theorem pgsI {X : Cx} {e : List Expr} {t t' : TGs} (h : PGs X e t) (i : ∀ u σ H Q, t' u σ H Q → t u σ H Q) : PGs X e t' := by
  obtain ⟨f⟩ := h
  exact ⟨fun pins s σ H x u Q I r q => f pins s σ H x u Q I r (i x σ H Q q)⟩
def gSet (i : Nat) : GM := fun v fr => if i < fr.length then some (fr.set i (some v)) else none
def ggNil : GMs := fun xs fr => match xs with
  | [] => some fr
  | _ => none
def ggCons (g : GM) (h : GMs) : GMs := fun xs fr => match xs with
  | x :: xs => (g (.d x) fr).bind fun fr1 => h xs fr1
  | _ => none
def ggTup (n : Nat) (h : GMs) : GM := fun v fr => match v with
  | .d (.tuple ds) => if ds.length = n then h ds fr else none
  | _ => none
section
variable {X : Cx} {O O1 O' : Own} {pos : Pos} {ts us : List Nat}
theorem cg_name (i : Nat) {x : Str} (hN : X.N.Nodup) (hi : X.N[i]? = some x := by rfl) (hx : Loc X.env.scope x := by first | exact Or.inl rfl | exact Or.inr rfl) (hf : X.fn x = true ∨ X.env.scope.names.lookup x = some .local := by first | exact .inl rfl | exact .inr rfl) : CG X O (.Name x pos) (gSet i) (O.set i false) [i] :=
  pgI (pg_name hN hi hx hf) fun u σ H Q ⟨v, fr, S, G, fr', R, r, e, k⟩ => by
    unfold gSet at e
    split at e
    · rename_i hl
      cases e
      refine k _ (R.store (by rw [← R.len]; exact hl) r) ⟨by simp, fun j hj => ?_⟩
      rw [List.getElem?_set_ne (fun z => hj (by rw [z]; exact List.mem_cons_self))]
    · cases e
theorem cgs_nil : CGs X O [] ggNil O [] := pgsI pgs_nil fun u σ H Q ⟨v, fr, S, G, fr', R, r, e, k⟩ => by
  cases r with
  | nil =>
    cases e
    exact ⟨rfl, k σ R Out.refl⟩
  | cons _ _ => cases e
theorem cgs_cons {e : Expr} {es : List Expr} {g : GM} {h : GMs} (h1 : CG X O e g O1 ts) (h2 : CGs X O1 es h O' us) (hs : (assignEach (e :: es) X.env).map (·.2) = assign e X.env :: (assignEach es X.env).map (·.2) := by rfl) :
    CGs X O (e :: es) (ggCons g h) O' (ts ++ us) :=
  pgsI (pgs_cons h1 h2 hs) fun u σ H Q ⟨v, fr, S, G, fr', R, r, e, k⟩ => by
    cases r with
    | nil => cases e
    | @cons d ds v vs r t =>
      cases q : g (.d d) fr with
      | none => simp [ggCons, q] at e
      | some fr1 =>
        have e' : h ds fr1 = some fr' := by simpa [ggCons, q] using e
        exact ⟨_, _, rfl, .d d, fr, S, G, fr1, R, r, q, fun σ1 R1 o1 => ⟨_, fr1, S, G, fr', R1, t, e', fun σ2 R2 o2 => k σ2 R2 (o1.app o2)⟩⟩
theorem cg_tup {es : List Expr} {k : Nat} {h : GMs} {n : Nat} (hc : X.calm = true) (h1 : CGs X O es h O' ts) (hn : (assignEach es X.env).length = n := by rfl) (hst : (assignEach es X.env).findIdx? (·.1) = none := by rfl) :
    CG X O (.Tuple es k pos) (ggTup n h) O' ts :=
  pgI (pg_tup hc h1 hn hst) fun u σ H Q ⟨v, fr, S, G, fr', R, r, e, k⟩ => by
    unfold ggTup at e
    split at e
    · split at e
      · rename_i hl
        cases r with
        | tup q rr => exact ⟨_, _, rfl, q, by rw [← rr.length]; exact hl, _, fr, S, G, fr', R, rr, e, k⟩
      · cases e
    · cases e
end
abbrev FM := Fr → Store → Rs (SV × Fr)
structure FPst (M : Mo) (W : WX) (O : Own) (σ : L2.St) (H : Hp) (G : Gh) (r : Rs (SV × Fr)) (fr : Fr) (Q : VK) : Prop where
  good : r ≠ .bad
  ok : ∀ v fr' S', r = .ok (v, fr') S' → ∀ u H' G', Rel M O σ H' fr' S' G' → Adv G H G' H' → RpS M G' H' v u → Q u H'
  exc : ∀ x S', r = .exc x S' → ∀ H' G' cls d, Rel M O σ H' fr S' G' → Adv G H G' H' → XRep M G' H' x cls d → W cls d σ H'
def tF (M : Mo) (W : WX) (O : Own) (m : FM) : TE := fun σ H Q => ∃ fr S G, Rel M O σ H fr S G ∧ FPst M W O σ H G (m fr S) fr Q
def CF (X : Cx) (W : WX) (O : Own) (e : Expr) (m : FM) : Prop := PE X e (tF (.of X) W O m)
def fE (m : EM) : FM := fun fr S => (m fr S).bind fun v S1 => .ok (v, fr) S1
theorem cf_of {X : Cx} {W : WX} {O : Own} {e : Expr} {m : EM} (h : CE X W O e m) : CF X W O e (fE m) :=
  peI h fun σ H Q ⟨fr, S, G, R, h⟩ => ⟨fr, S, G, R, fun e => h.good (by unfold fE; rw [e]; rfl), fun v S' e u H' G' R' st r => h.ok v fr S' (by unfold fE; rw [e]; rfl) u H' G' R' (R.base.adv st) r,
    fun x S' e H' G' cls d R' st r => h.exc x S' (by unfold fE; rw [e]; rfl) H' G' cls d R' (R.base.adv st) r⟩
def ofG : Option Fr → Store → SR
  | some fr, S => .nx fr S
  | none, _ => .bad
def sAsg (g : GM) (m : FM) : SM := fun fr S => (m fr S).toS fr fun p S1 => ofG (g p.1 p.2) S1
section
variable {X : Cx} {W : WX} {L O O' : Own} {pos : Pos} {ts : List Nat}
theorem SPst.expF {M : Mo} {σ : L2.St} {H : Hp} {fr : Fr} {G : Gh} {D : Ends} {r : Rs (SV × Fr)} {f : SV × Fr → Store → SR} {Q : VK} (h : SPst M W L O' H G (r.toS fr f) D)
    (next : ∀ (v : SV) (fr1 : Fr) (S1 : Store) (u : V) (H1 : Hp) (G1 : Gh), Rel M O σ H1 fr1 S1 G1 → RpS M G1 H1 v u → SPst M W L O' H1 G1 (f (v, fr1) S1) D → Q u H1) : FPst M W O σ H G r fr Q := by
  refine ⟨fun e => h.good (by rw [e]; rfl), fun v fr1 S1 e u H1 G1 R1 a1 q => ?_, fun x S1 e H1 G1 cls d R1 a1 q => ?_⟩
  · have hb : r.toS fr f = f (v, fr1) S1 := by rw [e]; rfl
    rw [hb] at h
    exact next v fr1 S1 u H1 G1 R1 q (h.on a1)
  · obtain ⟨G2, R2, a2⟩ := R1.freeze [] (fun i h => by simp [Own.has] at h)
    refine h.exc x fr S1 (by rw [e]; rfl) σ H1 G2 cls d R2 (a1.trans a2) ?_
    obtain ⟨ca, h1, h2, h3⟩ := q
    refine ⟨ca, h1, h2, ?_⟩
    rcases h3 with h3 | ⟨fs, da, vs, e1, e2, e3, e4⟩
    · exact .inl h3
    · exact .inr ⟨fs, da, vs, e1, e2, e3, RpF.keep a2.keeps a2.pre e4⟩
theorem cs_asg {tg e : Expr} {g : GM} {m : FM} (he : CF X W O e m) (hg : CG X O tg g O' ts) (hs : swapsWithSole [tg] e pos.line X.env = pure false := by rfl) (hw : swappedStores [tg] e X.env = pure none := by rfl)
    (h1 : (assignEach [tg] X.env).map (·.2) = [assign tg X.env] := by rfl) : CS X W L O (.Assign [tg] e pos) (sAsg g m) O' :=
  psI (ps_asg he hg hs hw h1) fun D σ H ⟨fr, S, G, R, h⟩ => ⟨fr, S, G, R, h.expF fun v fr1 S1 u H1 G1 R1 r h1 => by
    cases q : g v fr1 with
    | none => exact (h1.good (by simp [ofG, q])).elim
    | some fr2 => exact ⟨v, fr1, S1, G1, fr2, R1, r, q, fun σ2 R2 _ => h1.nx fr2 S1 (by simp [ofG, q]) σ2 H1 G1 R2 Adv.refl⟩⟩
theorem cs_set (i : Nat) {x : Str} {e : Expr} {m : EM} {pos' : Pos} (hN : X.N.Nodup) (he : CE X W O e m) (hi : X.N[i]? = some x := by rfl) (hx : Loc X.env.scope x := by first | exact Or.inl rfl | exact Or.inr rfl) (hs : swapsWith e (some (.Name x pos')) pos.line X.env = pure false := by rfl)
    (hf : X.fn x = true ∨ X.env.scope.names.lookup x = some .local := by first | exact .inl rfl | exact .inr rfl) : CS X W L O (.Assign [.Name x pos'] e pos) (sAsg (gSet i) (fE m)) (O.set i false) := by
  refine psI (ps_set hN hi hx (cf_of he) hs hf) fun D σ H ⟨fr, S, G, R, h⟩ => ⟨fr, S, G, R, h.expF fun v fr1 S1 u H1 G1 R1 r h1 => ?_⟩
  by_cases hl : i < fr1.length
  · exact h1.nx (fr1.set i (some v)) S1 (by simp [ofG, gSet, hl]) _ H1 G1 (R1.store (by rw [← R1.len]; exact hl) r) Adv.refl
  · exact (h1.good (by simp [ofG, gSet, hl])).elim
end
end PD
namespace PD
open PySem PySem.Spec PyProof.Rows L2 RZ
end PD
namespace PD
open PySem PySem.Spec PyProof.Rows L2
def whileF (c : TMt) (m : SM) : Nat → SM
  | 0 => fun _ _ => .bad
  | n + 1 => fun fr S => (c fr S).toS fr fun k S1 => if k = true then (match m fr S1 with
      | .nx fr2 S2 => whileF c m n fr2 S2
      | .ct fr2 S2 => whileF c m n fr2 S2
      | .bk fr2 S2 => .nx fr2 S2
      | r => r) else .nx fr S1
def fuel : Nat := 1000000000
def sWhile (c : TMt) (m : SM) : SM := whileF c m fuel
section
variable {X : Cx} {W : WX} {L O O1 O' : Own} {pos : Pos}
theorem cs_while {c : Expr} {body : List Stmt} {mc : TMt} {m : SM} (hp : PassesOwn (model X.prog X.w) X.A X.env X.xe) (hc : CT X W O c mc) (hb : CSs X W O O body m O) : CS X W L O (.While c body [] pos) (sWhile mc m) O := by
  refine psI (ps_while hp hc hb) fun D σ H ⟨fr, S, G, R, h⟩ => ?_
  refine ⟨fun n σ' H' => ∃ fr S G, Rel (.of X) O σ' H' fr S G ∧ SPst (.of X) W L O H' G (whileF mc m n fr S) D, ⟨fuel, fr, S, G, R, h⟩, ?_⟩
  rintro n σ1 H1 ⟨fr, S, G, R, h⟩
  cases n with
  | zero => exact (h.good rfl).elim
  | succ n =>
    refine ⟨fr, S, G, R, h.expr (O := O) R fun k S1 u H2 G1 R1 st1 a1 e h1 => ?_⟩
    subst e
    cases k with
    | false =>
      rw [if_neg Bool.false_ne_true] at h1 ⊢
      exact h1.nx fr S1 rfl σ1 H2 G1 R1 Adv.refl
    | true =>
      rw [if_pos rfl] at h1 ⊢
      refine ⟨fun σ' H' => ∃ fr S G, Rel (.of X) O σ' H' fr S G ∧ SPst (.of X) W L O H' G (whileF mc m n fr S) D, fun σ' H' q => ⟨n, Nat.lt_succ_self n, q⟩, fr, S1, G1, R1, ?_⟩
      refine ⟨fun e => h1.good (by rw [e]), fun fr' S' e σ' H' G' R' a' => ?_, fun fr' S' e σ' H' G' R' a' => ?_, fun fr' S' e σ' H' G' R' a' => ?_, fun v S' e => ?_, fun x fr' S' e => ?_⟩
      · rw [e] at h1
        exact ⟨fr', S', G', R', h1.on a'⟩
      · rw [e] at h1
        exact h1.nx fr' S' rfl σ' H' G' R' a'
      · rw [e] at h1
        exact ⟨fr', S', G', R', h1.on a'⟩
      · rw [e] at h1
        exact h1.rt v S' rfl
      · rw [e] at h1
        exact h1.exc x fr' S' rfl
def forF (g : GM) (m : SM) : List SV → SM
  | [] => sNx
  | x :: xs => fun fr S => match g x fr with
    | none => .bad
    | some fr1 => match m fr1 S with
      | .nx fr2 S2 => forF g m xs fr2 S2
      | .ct fr2 S2 => forF g m xs fr2 S2
      | .bk fr2 S2 => .nx fr2 S2
      | r => r
def sFor (g : GM) (it : AM) (m : SM) : SM := fun fr S => (it fr S).toS fr fun xs S1 => forF g m xs fr S1
def ItR (M : Mo) (G : Gh) (H : Hp) (xs : List SV) (J : It) : Prop := ∀ S' G' H', Base M H' S' G' → Adv G H G' H' → J.stop xs.length H' ∧
  ∀ i x, xs[i]? = some x → J.go i H' ∧ ∀ u H2, J.yld i H' u H2 → Base M H2 S' G' ∧ Stp G' H' G' H2 ∧ RpS M G' H2 x u
def tI (M : Mo) (W : WX) (O : Own) (m : AM) : TI := fun σ H R => ∃ fr S G, Rel M O σ H fr S G ∧ Pst M W O σ H fr G (m fr S) (ItR M) R
def CI (X : Cx) (W : WX) (O : Own) (tg e : Expr) (m : AM) : Prop := PI X tg e (tI (.of X) W O m)
theorem piI {X : Cx} {tg e : Expr} {t t' : TI} (h : PI X tg e t) (i : ∀ σ H R, t' σ H R → t σ H R) : PI X tg e t' := ⟨fun pins s σ H R I q => h.run pins s σ H R I (i σ H R q)⟩
theorem cs_for {tg iter : Expr} {body : List Stmt} {g : GM} {it : AM} {m : SM} {ts : List Nat} (hp : PassesOwn (model X.prog X.w) X.A X.env X.xe) (hc : X.calm = true) (hi : CI X W O tg iter it) (hg : CG X O tg g O1 ts) (hb : CSs X W O O1 body m O)
    (hs : ∀ x, foldedSetIterable iter X.env x = pure x := by intro _; rfl) : CS X W L O (.For tg iter body [] pos) (sFor g it m) O := by
  refine psI (ps_for hp hc hi hg hb hs) fun D σ H ⟨fr, S, G, R, h⟩ => ⟨fr, S, G, R, h.expr (O := O) R fun xs S1 J H1 G1 R1 st1 a1 J1 h1 => ?_⟩
  refine ⟨fun i n σ' H' => n = xs.length - i ∧ i ≤ xs.length ∧ ∃ fr S G, Rel (.of X) O σ' H' fr S G ∧ Adv G1 H1 G H' ∧ SPst (.of X) W L O H' G (forF g m (xs.drop i) fr S) D, ⟨xs.length, by omega, by omega, fr, S1, G1, R1, Adv.refl, by simpa using h1⟩, ?_⟩
  rintro i n σ2 H2 ⟨rfl, hle, fr, S, G, R, a, h⟩
  by_cases hlt : i < xs.length
  · right
    have hd : xs.drop i = xs[i] :: xs.drop (i + 1) := List.drop_eq_getElem_cons hlt
    rw [hd] at h
    obtain ⟨_, it1⟩ := J1 S G H2 R.base a
    obtain ⟨go, yld⟩ := it1 i xs[i] (List.getElem?_eq_getElem hlt)
    refine ⟨go, fun σ' H' => xs.length - (i + 1) = xs.length - (i + 1) ∧ i + 1 ≤ xs.length ∧ ∃ fr S G, Rel (.of X) O σ' H' fr S G ∧ Adv G1 H1 G H' ∧ SPst (.of X) W L O H' G (forF g m (xs.drop (i + 1)) fr S) D, fun σ' H' q => ⟨_, by omega, q⟩, fun u H3 y => ?_⟩
    obtain ⟨B3, st3, r3⟩ := yld u H3 y
    have R3 : Rel (.of X) O σ2 H3 fr S G := R.step st3 B3
    have a3 : Adv G H2 G H3 := R.base.adv st3
    have h3 := h.on a3
    cases q : g xs[i] fr with
    | none => exact (h3.good (by simp [forF, q])).elim
    | some fr1 =>
      refine ⟨xs[i], fr, S, G, fr1, R3, r3, q, fun σ4 R4 _ => ⟨fr1, S, G, R4, ?_⟩⟩
      have he : forF g m (xs[i] :: xs.drop (i + 1)) fr S = (match m fr1 S with
        | .nx fr2 S2 => forF g m (xs.drop (i + 1)) fr2 S2
        | .ct fr2 S2 => forF g m (xs.drop (i + 1)) fr2 S2
        | .bk fr2 S2 => .nx fr2 S2
        | r => r) := by simp only [forF, q]
      rw [he] at h3
      refine ⟨fun e => h3.good (by rw [e]), fun fr' S' e σ' H' G' R' a' => ?_, fun fr' S' e σ' H' G' R' a' => ?_, fun fr' S' e σ' H' G' R' a' => ?_, fun v S' e => ?_, fun x fr' S' e => ?_⟩
      · rw [e] at h3
        exact ⟨rfl, hlt, fr', S', G', R', (a.trans a3).trans a', h3.on a'⟩
      · rw [e] at h3
        exact h3.nx fr' S' rfl σ' H' G' R' a'
      · rw [e] at h3
        exact ⟨rfl, hlt, fr', S', G', R', (a.trans a3).trans a', h3.on a'⟩
      · rw [e] at h3
        exact h3.rt v S' rfl
      · rw [e] at h3
        exact h3.exc x fr' S' rfl
  · left
    have e : i = xs.length := by omega
    subst e
    rw [List.drop_length] at h
    exact ⟨(J1 S G H2 R.base a).1, h.nx fr S rfl σ2 H2 G R Adv.refl⟩
end
def chr (c : Nat) : SV := .d (.str ⟨#[c]⟩)
def iterV : SV → Option (List SV)
  | .d (.list ds) => some (ds.map .d)
  | .d (.tuple ds) => some (ds.map .d)
  | .d (.str z) => some (z.cps.toList.map chr)
  | _ => none
def iSeq (m : EM) : AM := fun fr S => (m fr S).bind fun x S1 => ofO (iterV x) S1
section
variable {M : Mo} {G G' : Gh} {H H' : Hp} {S : Store}
theorem Adv.sqT (a : Adv G H G' H') {K : PySem.W.Frag} {p : Addr} {xs : List V} (h : SqT K H p xs) : SqT K H' p xs := a.keeps.sqT h
theorem Adv.rpAll (a : Adv G H G' H') {ds : List PyData} {vs : List V} (h : RpAll M G.F H ds vs) : RpAll M G'.F H' ds vs := RpAll.keep a.keeps h
theorem map_get {ds : List PyData} {vs : List V} {i : Nat} {x : SV} (r : RpAll M G.F H ds vs) (h : (ds.map SV.d)[i]? = some x) : ∃ d v, x = .d d ∧ ds[i]? = some d ∧ vs[i]? = some v ∧ Rp M G.F H d v := by
  rw [List.getElem?_map] at h
  cases e : ds[i]? with
  | none => rw [e] at h; cases h
  | some d =>
    rw [e] at h
    obtain ⟨v, h1, h2⟩ := r.get e
    exact ⟨d, v, (Option.some.inj h).symm, rfl, h1, h2⟩
theorem itR_list {p : Addr} {ds : List PyData} {vs : List V} (f : G.F p) (q : H p = some (.lst vs)) (r : RpAll M G.F H ds vs) : ItR M G H (ds.map .d) (Itl M.K p) := fun S' G' H' B a => by
  have q' : H' p = some (.lst vs) := a.keeps.frozen p _ f q
  have s' : SqL M.K H' p vs := SqL.of q'
  have r' := a.rpAll r
  refine ⟨⟨vs, s', by rw [List.length_map, r.length]; exact Nat.le_refl _⟩, fun i x hx => ?_⟩
  obtain ⟨d, v, rfl, _, hv, rd⟩ := map_get r' hx
  refine ⟨⟨vs, v, s', hv⟩, fun u H2 y => ?_⟩
  obtain ⟨rfl, y⟩ := y
  have e := y vs s'
  rw [hv] at e
  cases e
  exact ⟨B, Stp.refl, rd⟩
theorem itR_tup {p : Addr} {ds : List PyData} {vs : List V} (q : SqT M.K H p vs) (r : RpAll M G.F H ds vs) : ItR M G H (ds.map .d) (Itt M.K p) := fun S' G' H' B a => by
  have s' : SqT M.K H' p vs := a.sqT q
  have r' := a.rpAll r
  refine ⟨⟨vs, s', by rw [List.length_map, r.length]; exact Nat.le_refl _⟩, fun i x hx => ?_⟩
  obtain ⟨d, v, rfl, _, hv, rd⟩ := map_get r' hx
  refine ⟨⟨vs, v, s', hv⟩, fun u H2 y => ?_⟩
  obtain ⟨rfl, y⟩ := y
  have e := y vs s'
  rw [hv] at e
  cases e
  exact ⟨B, Stp.refl, rd⟩
theorem itR_str {z : Str} : ItR M G H (z.cps.toList.map chr) (Its z) := fun S' G' H' B a => by
  refine ⟨by show z.cps.size ≤ _; simp, fun i x hx => ?_⟩
  rw [List.getElem?_map] at hx
  cases e : z.cps.toList[i]? with
  | none => rw [e] at hx; cases hx
  | some c =>
    rw [e] at hx
    have hx' : chr c = x := Option.some.inj hx
    subst hx'
    have hi : i < z.cps.size := by
      have := (List.getElem?_eq_some_iff.mp e).1
      simpa using this
    refine ⟨hi, fun u H2 y => ?_⟩
    obtain ⟨rfl, c', hc, rfl⟩ := y
    have : c' = c := by
      rw [Array.getElem?_toList] at e
      rw [e] at hc
      exact (Option.some.inj hc).symm
    subst this
    exact ⟨B, Stp.refl, Rp.str _⟩
theorem itR_range {lo : Int} {n : Nat} : ItR M G H ((List.range n).map fun i => SV.d (.int (lo + (i : Nat)))) (Itr lo n) := fun S' G' H' B a => by
  refine ⟨by show n ≤ _; simp, fun i x hx => ?_⟩
  rw [List.getElem?_map] at hx
  by_cases hi : i < n
  · rw [List.getElem?_range hi] at hx
    have hx' : SV.d (.int (lo + (i : Nat))) = x := Option.some.inj hx
    subst hx'
    refine ⟨hi, fun u H2 y => ?_⟩
    obtain ⟨rfl, rfl⟩ := y
    exact ⟨B, Stp.refl, Rp.int _⟩
  · rw [List.getElem?_eq_none (by simpa using hi)] at hx
    cases hx
end
def iAny (K : PySem.W.Frag) (tl : TE) : TI := fun σ H R => tl σ H fun x H1 => (∃ a, x = .ref a ∧ (∃ xs, SqL K H1 a xs) ∧ R (Itl K a) H1) ∨ (∃ a, x = .ref a ∧ (∃ xs, SqT K H1 a xs) ∧ R (Itt K a) H1) ∨ ∃ z, x = .str z ∧ R (Its z) H1
theorem pi_any {X : Cx} {tg l : Expr} {tl : TE} (hl : PE X l tl) : PI X tg l (iAny X.K tl) := by
  refine ⟨fun pins s σ H R I h => ?_⟩
  refine thn (hl.run pins s σ H _ I h) fun v s1 ⟨x, H1, I1, r1, q1⟩ => ?_
  rcases q1 with ⟨a, e, ⟨xs, hq⟩, q⟩ | ⟨a, e, ⟨xs, hq⟩, q⟩ | ⟨z, e, q⟩
  · subst e
    cases r1
    obtain ⟨its, rv, p, hz⟩ := I1.list hq
    refine wpAny_pyIter_list p.isList ⟨s1.heap.objs.size, [s1.heap.objs.size], _, _, H1, rfl, I1.kept (t' := s1.toks) fun b o e => Heap.get?_push_of_some _ e, turn_list a _, ⟨_, Heap.get?_push_size _ rfl, rfl, rfl⟩, ?_, q⟩
    intro b hb
    obtain rfl : b = s1.heap.objs.size := by simpa using hb
    exact I1.fpOk (Nat.le_refl _) (I1.hok.fresh (Nat.le_refl _))
  · subst e
    cases r1
    obtain ⟨its, rv, p, hz⟩ := I1.tuple hq
    refine wpAny_pyIter_tuple (show s1.heap.IsTuple a its.toArray from p) ⟨s1.heap.objs.size, [s1.heap.objs.size], _, _, H1, rfl, I1.kept (t' := s1.toks) fun b o e => Heap.get?_push_of_some _ e, turn_tuple a _, ⟨_, Heap.get?_push_size _ rfl, rfl, rfl⟩, ?_, q⟩
    intro b hb
    obtain rfl : b = s1.heap.objs.size := by simpa using hb
    exact I1.fpOk (Nat.le_refl _) (I1.hok.fresh (Nat.le_refl _))
  · subst e
    obtain ⟨t, rfl⟩ := r1
    cases ha : z.cps.all (· < 128) with
    | false => exact wpAny_pyIter_wide ha (pi_one (tk := s1.toks) I1 _ (turn_str _ z t "str_iterator" (.inr rfl)) ⟨_, Heap.get?_push_size _ rfl, rfl, rfl⟩ q)
    | true => exact wpAny_pyIter_ascii ha (pi_one (tk := s1.toks) I1 _ (turn_str _ z t "str_ascii_iterator" (.inl rfl)) ⟨_, Heap.get?_push_size _ rfl, rfl, rfl⟩ q)
def big62 (i : Int) : Bool := decide (-(2 ^ 62) ≤ i) && decide (i < 2 ^ 62)
def rngL (lo hi : Int) : List SV := (List.range (hi - lo).toNat).map fun i => SV.d (.int (lo + (i : Nat)))
def rng1V : List SV → Store → Rs (List SV)
  | [.d (.int j)], S => if big62 j = true then .ok (rngL 0 j) S else .bad
  | _, _ => .bad
def iA (p : List SV → Store → Rs (List SV)) (a : AM) : AM := fun fr S => (a fr S).bind fun xs S1 => p xs S1
def revL (lo hi : Int) : List SV := (List.range (hi - lo).toNat).map fun i => SV.d (.int (hi - 1 - (i : Nat)))
section
variable {X : Cx} {W : WX} {O : Own} {tg : Expr}
theorem ci_any {e : Expr} {m : EM} (he : CE X W O e m) : CI X W O tg e (iSeq m) :=
  piI (pi_any he) fun σ H R ⟨fr, S, G, R0, h⟩ => ⟨fr, S, G, R0, h.split fun x S1 u H1 G1 R1 st1 rx h1 => by
    cases e : iterV x with
    | none => rw [e] at h1; exact h1.not_bad.elim
    | some xs =>
      rw [e] at h1
      unfold iterV at e
      split at e
      · cases e
        cases rx with
        | lst f q r => exact .inl ⟨_, rfl, ⟨_, SqL.of q⟩, h1.here R1 (itR_list f q r)⟩
      · cases e
        cases rx with
        | tup q r => exact .inr (.inl ⟨_, rfl, ⟨_, q⟩, h1.here R1 (itR_tup q r)⟩)
      · cases e
        cases rx
        exact .inr (.inr ⟨_, rfl, h1.here R1 itR_str⟩)
      · cases e⟩
theorem ci_range1 {a : Expr} {m : AM} {p pos : Pos} (hg : Gl X "range") (hm : X.mg "range" = none) (ha : CA X W O [a] m) (hs : starEach [a] X.env = [(false, eval a X.env)] := by rfl) : CI X W O tg (.Call (.Name "range" p) [a] [] pos) (iA rng1V m) :=
  piI (pi_range1 hg hm ha hs) fun σ H R ⟨fr, S, G, R0, h⟩ => ⟨fr, S, G, R0, h.split fun xs S1 us H1 G1 R1 st1 rs h1 => by
    unfold rng1V at h1
    split at h1
    · split at h1
      · rename_i hz
        obtain ⟨u, rfl, ru⟩ := rs.one
        cases ru
        simp only [big62, Bool.and_eq_true, decide_eq_true_eq] at hz
        unfold rngL at h1
        rw [Int.sub_zero] at h1
        exact ⟨_, rfl, hz.1, hz.2, h1.here R1 itR_range⟩
      · exact h1.not_bad.elim
    · exact h1.not_bad.elim⟩
theorem itR_rev {M : Mo} {G : Gh} {H : Hp} {lo hi : Int} : ItR M G H (revL lo hi) (Itc (lo + (((hi - lo).toNat : Nat) : Int) - 1) (-1) (hi - lo).toNat) := fun S' G' H' B a => by
  refine ⟨by show (hi - lo).toNat ≤ _; simp [revL], fun i x hx => ?_⟩
  unfold revL at hx
  rw [List.getElem?_map] at hx
  by_cases h : i < (hi - lo).toNat
  · rw [List.getElem?_range h] at hx
    have hx' : SV.d (.int (hi - 1 - (i : Nat))) = x := Option.some.inj hx
    subst hx'
    refine ⟨h, fun u H2 y => ?_⟩
    obtain ⟨rfl, rfl⟩ := y
    have e : lo + (((hi - lo).toNat : Nat) : Int) - 1 + (i : Nat) * (-1) = hi - 1 - (i : Nat) := by omega
    rw [e]
    exact ⟨B, Stp.refl, Rp.int _⟩
  · rw [List.getElem?_eq_none (by simpa using h)] at hx
    cases hx
def rev1V (x : SV) (S : Store) : Rs (List SV) := match x with
  | .d (.int j) => if big62 j = true then .ok (revL 0 j) S else .bad
  | _ => .bad
def i1 (p : SV → Store → Rs (List SV)) (a : EM) : AM := fun fr S => (a fr S).bind fun x S1 => p x S1
theorem ci_rev1 {a : Expr} {m : EM} {p1 q1 p pos : Pos} (hg : Gl X "reversed") (hm : X.mg "reversed" = none) (hg2 : Gl X "range") (hm2 : X.mg "range" = none) (ha : CE X W O a m)
    (na : starEach [a] X.env = (false, eval a X.env) :: starEach [] X.env := by rfl) (hs : starEach [.Call (.Name "range" p1) [a] [] q1] X.env = (false, eval (.Call (.Name "range" p1) [a] [] q1) X.env) :: starEach [] X.env := by rfl) :
    CI X W O tg (.Call (.Name "reversed" p) [.Call (.Name "range" p1) [a] [] q1] [] pos) (i1 rev1V m) :=
  piI (pi_revR hg hm (prg_1 hg2 hm2 ha na) hs) fun σ H R ⟨fr, S, G, R0, h⟩ => ⟨fr, S, G, R0, h.split fun x S1 u H1 G1 R1 st1 rx h1 => by
    unfold rev1V at h1
    split at h1
    · split at h1
      · rename_i hz
        cases rx
        simp only [big62, Bool.and_eq_true, decide_eq_true_eq] at hz
        exact ⟨_, rfl, by omega, by omega, hz.1, hz.2, h1.here R1 itR_rev⟩
      · exact h1.not_bad.elim
    · exact h1.not_bad.elim⟩
theorem pair_step {M : Mo} {G G' : Gh} {H H' : Hp} {S' : Store} {T : Addr} {v w : V} {a b : PyData} (B : Base M H' S' G') (hT : H' T = none) (ra : Rp M G'.F H' a v) (rb : Rp M G'.F H' b w) :
    Base M (upd H' T (.tup [v, w])) S' G' ∧ Stp G' H' G' (upd H' T (.tup [v, w])) ∧ RpS M G' (upd H' T (.tup [v, w])) (.d (.tuple [a, b])) (.ref T) := by
  obtain ⟨B2, st⟩ := B.newT (o := .tup [v, w]) hT
  exact ⟨B2, st, .tup (.inl (.inl upd_same)) (RpAll.keep (B.keeps st) (.cons ra (.cons rb .nil)))⟩
inductive SqR (M : Mo) (G : Gh) (H : Hp) : Bool → PyData → Addr → List PyData → Prop
  | lst {a : Addr} {ds : List PyData} {vs : List V} : G.F a → H a = some (.lst vs) → RpAll M G.F H ds vs → SqR M G H false (.list ds) a ds
  | tup {a : Addr} {ds : List PyData} {vs : List V} : SqT M.K H a vs → RpAll M G.F H ds vs → SqR M G H true (.tuple ds) a ds
theorem SqR.on {M : Mo} {G G' : Gh} {H H' : Hp} {t : Bool} {x : PyData} {a : Addr} {ds : List PyData} (A : Adv G H G' H') (h : SqR M G H t x a ds) : SqR M G' H' t x a ds := by
  cases h with
  | lst f q r => exact .lst (A.keeps.sub _ f) (A.keeps.frozen _ _ f q) (A.rpAll r)
  | tup q r => exact .tup (A.sqT q) (A.rpAll r)
end
def ItS (M : Mo) (G : Gh) (H : Hp) (xs : List SV) (J : It) : Prop := ∀ S' G' H', Base M H' S' G' → Stp G H G' H' → J.stop xs.length H' ∧
  ∀ i x, xs[i]? = some x → J.go i H' ∧ ∀ u H2, J.yld i H' u H2 → Base M H2 S' G' ∧ Stp G' H' G' H2 ∧ RpS M G' H2 x u
def tIs (M : Mo) (W : WX) (O : Own) (m : AM) : TI := fun σ H R => ∃ fr S G, Rel M O σ H fr S G ∧ Pst M W O σ H fr G (m fr S) (ItS M) R
def CIs (X : Cx) (W : WX) (O : Own) (tg e : Expr) (m : AM) : Prop := PI X tg e (tIs (.of X) W O m)
section
variable {X : Cx} {W : WX} {O : Own} {tg : Expr}
theorem cis_of {e : Expr} {m : AM} (h : CI X W O tg e m) : CIs X W O tg e m := piI h fun σ H R ⟨fr, S, G, R0, h⟩ => ⟨fr, S, G, R0, h.good, fun z S' e J H' G' R' st r => h.ok z S' e J H' G' R' st fun S2 G2 H2 B2 st2 => r S2 G2 H2 B2 (R'.base.adv st2), h.exc⟩
theorem itS_own {M : Mo} {G : Gh} {H : Hp} {S : Store} {p : Addr} {ds : List PyData} {vs : List V} (B0 : Base M H S G) (n : p ∉ G.rho) (q : H p = some (.lst vs)) (r : RpAll M G.F H ds vs) : ItS M G H (ds.map .d) (Itl M.K p) := fun S' G' H' B st => by
  have s' : SqL M.K H' p vs := SqL.of (st.keep p _ q n)
  have r' := RpAll.keep (B0.keeps st) r
  refine ⟨⟨vs, s', by rw [List.length_map, r.length]; exact Nat.le_refl _⟩, fun i x hx => ?_⟩
  obtain ⟨d, v, rfl, _, hv, rd⟩ := map_get r' hx
  refine ⟨⟨vs, v, s', hv⟩, fun u H2 y => ?_⟩
  obtain ⟨rfl, y⟩ := y
  have e := y vs s'
  rw [hv] at e
  cases e
  exact ⟨B, Stp.refl, rd⟩
theorem cis_any {e : Expr} {m : EM} (he : CV X W O e m) : CIs X W O tg e (iSeq m) :=
  piI (pi_any he) fun σ H R ⟨fr, S, G, R0, h⟩ => ⟨fr, S, G, R0, h.split fun x S1 u H1 G1 R1 st1 rx h1 => by
    have toS : ∀ {xs : List SV} {J : It}, ItR (.of X) G1 H1 xs J → ItS (.of X) G1 H1 xs J := fun r S2 G2 H2 B2 st2 => r S2 G2 H2 B2 (R1.base.adv st2)
    cases e : iterV x with
    | none => rw [e] at h1; exact h1.not_bad.elim
    | some xs =>
      rw [e] at h1
      unfold iterV at e
      split at e
      · cases e
        cases rx with
        | val rx =>
          cases rx with
          | lst f q r => exact .inl ⟨_, rfl, ⟨_, SqL.of q⟩, h1.here R1 (toS (itR_list f q r))⟩
        | own n q r => exact .inl ⟨_, rfl, ⟨_, SqL.of q⟩, h1.here R1 (itS_own R1.base n q r)⟩
      · cases e
        obtain ⟨_, _, rfl, q, r⟩ := rx.tup
        exact .inr (.inl ⟨_, rfl, ⟨_, q⟩, h1.here R1 (toS (itR_tup q r))⟩)
      · cases e
        obtain rfl := rx.str
        exact .inr (.inr ⟨_, rfl, h1.here R1 (toS itR_str)⟩)
      · cases e⟩
end
end PD
namespace PD
open PySem PySem.Spec PyProof.Rows L2
def tN (M : Mo) (W : WX) (O : Own) (m : EM) : TE := fun σ H Q => ∃ fr S G, Rel M O σ H fr S G ∧ Pst M W O σ H fr G (m fr S) (fun G' H' v u => ∃ a, u = .ref a ∧ Tmp M H a v G' H') Q
def CN (X : Cx) (W : WX) (O : Own) (e : Expr) (m : EM) : Prop := PE X e (tN (.of X) W O m)
section
variable {M : Mo} {W : WX} {O : Own} {m : EM} {σ : L2.St} {H : Hp} {Q : VK}
theorem tN_of_tM (h : tM M W O m σ H Q) : tN M W O m σ H Q := by
  obtain ⟨fr, S, G, R, h⟩ := h
  refine ⟨fr, S, G, R, h.good, fun z S' e u H' G' R' st ⟨a, eu, t⟩ => ?_, h.exc⟩
  subst eu
  obtain ⟨x, rfl⟩ := Cont.data t.cont
  obtain ⟨G2, R2, st2, r⟩ := R'.tmpFreeze st t (fun i v o e1 e2 => R.own_there o e1 e2 t.new) (by rw [st.h0]; exact (R.base.new0 t.new).1)
  exact h.ok _ S' e _ H' G2 R2 st2 r
end
section
variable {X : Cx} {W : WX} {L O : Own} {pos : Pos}
theorem ce_of_cn {e : Expr} {m : EM} (h : CN X W O e m) : CE X W O e m := peI h fun σ H Q q => tN_of_tM q
def sOwn (i : Nat) (n : Nat) (m : EM) : SM := fun fr S => (m fr S).toS fr fun v S1 => if i < fr.length ∧ i < n then .nx (fr.set i (some v)) S1 else .bad
theorem own_store {O' : Own} {σ : L2.St} {H : Hp} {i : Nat} {m : EM} {D : Ends} (h : tS (.of X) W L O (O.set i true) (sOwn i O.length m) D σ H) : tN (.of X) W O m σ H fun x H1 => gName i x σ H1 D.nx := by
  obtain ⟨fr, S, G, R, h⟩ := h
  refine ⟨fr, S, G, R, h.expr R fun v S1 u H1 G1 R1 st1 a1 ⟨a, eu, t⟩ h1 => ?_⟩
  subst eu
  by_cases hl : i < fr.length ∧ i < O.length
  · have n0 : G1.H0 a = none := by rw [st1.h0]; exact (R.base.new0 t.new).1
    exact h1.nx (fr.set i (some v)) S1 (by rw [if_pos hl]) _ H1 G1 (R1.storeOwn (by rw [← R1.len]; exact hl.1) hl.2 t.nf t.nr n0 t.cont fun j w oj e1 e2 => R.own_there oj e1 e2 t.new) Adv.refl
  · exact (h1.good (by rw [if_neg hl])).elim
theorem cs_own (i : Nat) {x : Str} {e : Expr} {m : EM} {pos' : Pos} (hN : X.N.Nodup) (he : CN X W O e m) (hi : X.N[i]? = some x := by rfl) (hx : Loc X.env.scope x := by first | exact Or.inl rfl | exact Or.inr rfl) (hs : swapsWith e (some (.Name x pos')) pos.line X.env = pure false := by rfl)
    (hf : X.fn x = true ∨ X.env.scope.names.lookup x = some .local := by first | exact .inl rfl | exact .inr rfl) : CS X W L O (.Assign [.Name x pos'] e pos) (sOwn i O.length m) (O.set i true) :=
  psI (ps_set hN hi hx he hs hf) fun D σ H h => own_store (O' := O) h
theorem cn_lst {es : List Expr} {m : AM} (h : CA X W O es m) : CN X W O (.List es pos) (eA mkLst m) := by
  refine peI (pe_lst h) fun σ H Q ⟨fr, S, G, R, h⟩ => ⟨fr, S, G, R, h.split fun xs S1 us H1 G1 R1 st1 rs h1 => ?_⟩
  cases e : asDs xs with
  | none => exact (Pst.not_bad (by simpa [mkLst, e] using h1)).elim
  | some ds =>
    have r := rs.data e
    by_cases z : ds.length ≤ sizeLine
    · have h1' : Pst (.of X) W O σ H1 fr G1 (Rs.ok (.d (.list ds)) S1) (fun G' H' v u => ∃ a, u = V.ref a ∧ Tmp (.of X) H a v G' H') Q := by simpa [mkLst, e, z] using h1
      refine ⟨by rw [← r.length]; exact z, fun p hp => ?_⟩
      obtain ⟨B, st⟩ := R1.base.newT (o := .lst us) hp
      obtain ⟨_, nr, nf⟩ := R1.base.new0 hp
      exact h1'.ok _ _ rfl _ _ G1 (R1.step st B) st ⟨p, rfl, st1.there p hp, nf, nr, .inl ⟨ds, us, rfl, upd_same, RpAll.keep (R1.base.keeps st) r⟩⟩
    · exact (Pst.not_bad (by simpa [mkLst, e, z] using h1)).elim
def wipeF (fr : Fr) : List Nat → Fr
  | [] => fr
  | v :: vs => (wipeF fr vs).set v none
def noX {α : Type} : Rs α → Rs α
  | .exc _ _ => .bad
  | r => r
def compF (g : GM) (tt : TMt) (te : EM) (vs : List Nat) (fr : Fr) : List SV → Store → List PyData → Rs (List PyData)
  | [], S, acc => .ok acc S
  | x :: xs, S, acc => match g x (wipeF fr vs) with
    | none => .bad
    | some fr1 => (noX (tt fr1 S)).bind fun b S1 => if b = true then (noX (te fr1 S1)).bind fun y S2 => match y with
        | .d d => if acc.length < sizeLine then compF g tt te vs fr xs S2 (acc ++ [d]) else .bad
        | _ => .bad
      else compF g tt te vs fr xs S1 acc
def eLc (it : AM) (g : GM) (tt : TMt) (te : EM) (vs : List Nat) : EM := fun fr S => (it fr S).bind fun xs S1 => (compF g tt te vs fr xs S1 []).bind fun ds S2 => .ok (.d (.list ds)) S2
def bYes : TMt := fun _ S => .ok true S
theorem wipeF_length (fr : Fr) : ∀ vs : List Nat, (wipeF fr vs).length = fr.length
  | [] => rfl
  | v :: vs => by unfold wipeF; rw [List.length_set, wipeF_length fr vs]
theorem wipe_get (σ : L2.St) : ∀ (vs : List Nat) (i : Nat), i ∉ vs → (wipe σ vs)[i]? = σ[i]?
  | [], _, _ => rfl
  | v :: vs, i, h => by
    rw [List.mem_cons, not_or] at h
    unfold wipe
    rw [List.getElem?_set_ne (Ne.symm h.1)]
    exact wipe_get σ vs i h.2
theorem wipeF_get {fr : Fr} {v : SV} : ∀ {vs : List Nat} {i : Nat}, (wipeF fr vs)[i]? = some (some v) → i ∉ vs ∧ fr[i]? = some (some v)
  | [], _, h => ⟨by simp, h⟩
  | w :: vs, i, h => by
    unfold wipeF at h
    by_cases e : w = i
    · subst e
      by_cases hl : w < (wipeF fr vs).length
      · rw [List.getElem?_set_self hl] at h; cases h
      · rw [List.getElem?_eq_none (by simpa using hl)] at h; cases h
    · rw [List.getElem?_set_ne e] at h
      obtain ⟨h1, h2⟩ := wipeF_get h
      exact ⟨by rw [List.mem_cons, not_or]; exact ⟨Ne.symm e, h1⟩, h2⟩
theorem wipe_len (σ : L2.St) : ∀ vs : List Nat, (wipe σ vs).length = σ.length
  | [] => rfl
  | v :: vs => by unfold wipe; rw [List.length_set, wipe_len σ vs]
theorem Rel.wipe {M : Mo} {σ : L2.St} {H : Hp} {fr : Fr} {S : Store} {G : Gh} (R : Rel M O σ H fr S G) (vs : List Nat) : Rel M O (L2.wipe σ vs) H (wipeF fr vs) S G := by
  refine ⟨R.base, by rw [wipeF_length, wipe_len]; exact R.len, fun i v e => ?_, fun i j v w a oi oj e1 e2 g1 g2 => ?_⟩
  · obtain ⟨n, e'⟩ := wipeF_get e
    obtain ⟨u, h1, h2⟩ := R.slot i v e'
    exact ⟨u, by rw [wipe_get σ vs i n]; exact h1, h2⟩
  · obtain ⟨n1, e1'⟩ := wipeF_get e1
    obtain ⟨n2, e2'⟩ := wipeF_get e2
    rw [wipe_get σ vs i n1] at g1
    rw [wipe_get σ vs j n2] at g2
    exact R.own i j v w a oi oj e1' e2' g1 g2
theorem wipe_ext {σ σ' : L2.St} (hl : σ'.length = σ.length) : ∀ (vs : List Nat), (∀ k, k ∉ vs → σ'[k]? = σ[k]?) → L2.wipe σ' vs = L2.wipe σ vs := fun vs h => by
  refine List.ext_getElem? fun k => ?_
  by_cases hk : k ∈ vs
  · have inn : ∀ (τ : L2.St), k < τ.length → (L2.wipe τ vs)[k]? = some none := fun τ ht => by
      have go : ∀ ws : List Nat, k ∈ ws → (L2.wipe τ ws)[k]? = some none := fun ws => by
        induction ws with
        | nil => intro z; cases z
        | cons w ws ih =>
          intro z
          unfold L2.wipe
          by_cases e : w = k
          · subst e
            rw [List.getElem?_set_self (by rw [wipe_len]; exact ht)]
          · rw [List.getElem?_set_ne e]
            rcases List.mem_cons.mp z with q | q
            · exact absurd q.symm e
            · exact ih q
      exact go vs hk
    by_cases hlt : k < σ.length
    · rw [inn σ hlt, inn σ' (by rw [hl]; exact hlt)]
    · rw [List.getElem?_eq_none (show (L2.wipe σ' vs).length ≤ k by rw [wipe_len]; omega), List.getElem?_eq_none (show (L2.wipe σ vs).length ≤ k by rw [wipe_len]; omega)]
  · rw [wipe_get _ _ _ hk, wipe_get _ _ _ hk, h k hk]
theorem wipe_out {σ σ' : L2.St} {ts vs : List Nat} (o : Out ts (L2.wipe σ vs) σ') (hsub : ∀ k ∈ ts, k ∈ vs) : L2.wipe σ' vs = L2.wipe σ vs := by
  have h1 : L2.wipe σ' vs = L2.wipe (L2.wipe σ vs) vs := wipe_ext o.1 vs fun k hk => o.2 k fun z => hk (hsub k z)
  rw [h1]
  exact wipe_ext (wipe_len σ vs) vs fun k hk => wipe_get σ vs k hk
end
section
variable {M : Mo} {W : WX} {O O1 : Own} {σ : L2.St} {H : Hp} {Q : VK} {it : AM} {g : GM} {tt : TMt} {te : EM} {vs ts : List Nat}
abbrev WF : WX := fun _ _ _ _ => False
theorem Pst.ofX {α β : Type} {fr : Fr} {G : Gh} {r : Rs α} {rel : Gh → Hp → α → β → Prop} {Q : β → Hp → Prop} (g : noX r ≠ .bad) (k : ∀ (z : α) (S' : Store), r = .ok z S' → ∀ (u : β) (H' : Hp) (G' : Gh), Rel M O σ H' fr S' G' → Stp G H G' H' → rel G' H' z u → Q u H') : Pst M WF O σ H fr G r rel Q :=
  ⟨fun e => g (by rw [e]; rfl), k, fun x S' e => (g (by rw [e]; rfl)).elim⟩
theorem lc_read (hsub : ∀ k ∈ ts, k ∈ vs) (h : tN M W O (eLc it g tt te vs) σ H Q) :
    tLc (tIs M W O it) (tG M O O1 ts g) (tT M WF O1 tt) (tM M WF O1 te) vs σ H Q := by
  obtain ⟨fr, S, G, R, h⟩ := h
  refine ⟨fr, S, G, R, h.split fun xs S1 J H1 G1 R1 st1 J1 h1 => fun D hD => ?_⟩
  obtain ⟨B0, st0⟩ := R1.base.newT (o := .lst []) hD
  obtain ⟨_, nr0, nf0⟩ := R1.base.new0 hD
  have hgood : compF g tt te vs fr xs S1 [] ≠ .bad := fun e => h1.good (by rw [e]; rfl)
  refine ⟨fun i n H' => n = xs.length - i ∧ i ≤ xs.length ∧ ∃ S' G' acc, Rel M O σ H' fr S' G' ∧ Stp G1 H1 G' H' ∧ Tmp M H1 D (.d (.list acc)) G' H' ∧ compF g tt te vs fr xs S1 [] = compF g tt te vs fr (xs.drop i) S' acc,
    ⟨xs.length, by omega, by omega, S1, G1, [], R1.step st0 B0, st0, ⟨hD, nf0, nr0, .inl ⟨[], [], rfl, upd_same, .nil⟩⟩, by rw [List.drop_zero]⟩, ?_⟩
  rintro i n H2 ⟨rfl, hle, S2, G2, acc, R2, st2, t2, eq2⟩
  have adv2 : Adv G1 H1 G2 H2 := R1.base.adv st2
  by_cases hlt : i < xs.length
  · right
    have hd : xs.drop i = xs[i] :: xs.drop (i + 1) := List.drop_eq_getElem_cons hlt
    obtain ⟨_, it1⟩ := J1 S2 G2 H2 R2.base st2
    obtain ⟨go, yld⟩ := it1 i xs[i] (List.getElem?_eq_getElem hlt)
    refine ⟨go, fun H' => xs.length - (i + 1) = xs.length - (i + 1) ∧ i + 1 ≤ xs.length ∧ ∃ S' G' acc, Rel M O σ H' fr S' G' ∧ Stp G1 H1 G' H' ∧ Tmp M H1 D (.d (.list acc)) G' H' ∧ compF g tt te vs fr xs S1 [] = compF g tt te vs fr (xs.drop (i + 1)) S' acc,
      fun H' q => ⟨_, by omega, q⟩, fun u H3 y => ?_⟩
    obtain ⟨B3, st3, r3⟩ := yld u H3 y
    have R3 : Rel M O σ H3 fr S2 G2 := R2.step st3 B3
    have t3 := t2.step R2.base st3
    have st13 := st2.trans st3
    rw [hd] at eq2
    cases q : g xs[i] (wipeF fr vs) with
    | none => exact (hgood (by rw [eq2]; simp [compF, q])).elim
    | some fr1 =>
      have e1 : compF g tt te vs fr (xs[i] :: xs.drop (i + 1)) S2 acc = (noX (tt fr1 S2)).bind fun b S3 => if b = true then (noX (te fr1 S3)).bind fun y S4 => match y with
          | .d d => if acc.length < sizeLine then compF g tt te vs fr (xs.drop (i + 1)) S4 (acc ++ [d]) else .bad
          | _ => .bad
        else compF g tt te vs fr (xs.drop (i + 1)) S3 acc := by simp only [compF, q]
      rw [e1] at eq2
      refine ⟨xs[i], wipeF fr vs, S2, G2, fr1, R3.wipe vs, r3, q, fun σ4 R4 o4 => ⟨wipe_out o4 hsub, fr1, S2, G2, R4, ?_⟩⟩
      refine Pst.ofX (fun e => hgood (by rw [eq2, e]; rfl)) fun b S5 eb b' H5 G5 R5 st5 ebb => ?_
      subst ebb
      rw [eb] at eq2
      have eq5 : compF g tt te vs fr xs S1 [] = if b = true then (noX (te fr1 S5)).bind fun y S4 => match y with
          | .d d => if acc.length < sizeLine then compF g tt te vs fr (xs.drop (i + 1)) S4 (acc ++ [d]) else .bad
          | _ => .bad
        else compF g tt te vs fr (xs.drop (i + 1)) S5 acc := eq2
      have RO5 : Rel M O σ H5 fr S5 G5 := R3.step st5 R5.base
      have t5 := t3.step R3.base st5
      have st15 := st13.trans st5
      cases b with
      | false =>
        rw [if_neg Bool.false_ne_true] at eq5 ⊢
        exact ⟨rfl, hlt, S5, G5, acc, RO5, st15, t5, eq5⟩
      | true =>
        rw [if_pos rfl] at eq5 ⊢
        refine ⟨fr1, S5, G5, R5, Pst.ofX (fun e => hgood (by rw [eq5, e]; rfl)) fun y S6 ey w H6 G6 R6 st6 ry => ?_⟩
        rw [ey] at eq5
        have RO6 : Rel M O σ H6 fr S6 G6 := RO5.step st6 R6.base
        have t6 := t5.step RO5.base st6
        have st16 := st15.trans st6
        cases y with
        | obj k => exact (hgood (by rw [eq5]; rfl)).elim
        | scr k => exact (hgood (by rw [eq5]; rfl)).elim
        | d d =>
          have eq6 : compF g tt te vs fr xs S1 [] = if acc.length < sizeLine then compF g tt te vs fr (xs.drop (i + 1)) S6 (acc ++ [d]) else .bad := eq5
          by_cases hz : acc.length < sizeLine
          · rw [if_pos hz] at eq6
            rcases t6.cont with ⟨ds, vs', e, q6, r6⟩ | ⟨_, _, e, _⟩ | ⟨_, _, _, e, _⟩
            · cases e
              obtain ⟨R7, st7, k7⟩ := R1.tmpWrite (o := .lst (vs' ++ [w])) RO6 st16 t6
              refine ⟨vs', q6, by rw [← r6.length]; exact hz, rfl, hlt, S6, G6, acc ++ [d], R7, st7, ⟨hD, t6.nf, t6.nr, .inl ⟨acc ++ [d], vs' ++ [w], rfl, upd_same, RpAll.keep k7 (r6.append (.cons ry .nil))⟩⟩, eq6⟩
            · cases e
            · cases e
          · rw [if_neg hz] at eq6
            exact (hgood eq6).elim
  · left
    have e : i = xs.length := by omega
    subst e
    rw [List.drop_length] at eq2
    have eq3 : compF g tt te vs fr xs S1 [] = .ok acc S2 := eq2
    refine ⟨(J1 S2 G2 H2 R2.base st2).1, ?_⟩
    rw [eq3] at h1
    exact h1.ok _ S2 rfl _ H2 G2 R2 st2 ⟨D, rfl, ⟨st1.there D hD, t2.nf, t2.nr, t2.cont⟩⟩
end
section
variable {X : Cx} {W : WX} {L O O1 : Own}
theorem cn_lc {elt tg iter : Expr} {ifs : List Expr} {scope : Scope} {own : List (Str × Nat)} {pos : Pos} {it : AM} {g : GM} {tt : TMt} {te : EM} {ts : List Nat} (hc : X.calm = true) (hN : X.N.Nodup) (hi : CIs X W O tg iter it) (ok : BlkOk X.N X.env.scope scope own)
    (hg : ∀ (s : Shared) (H : Hp) (C : Addr) (cl : List (Str × Addr)) (fp : List Addr), CG (X.blk s H scope (compEnvC scope cl C X.env) fp) O tg g O1 ts)
    (ht : ∀ (s : Shared) (H : Hp) (C : Addr) (cl : List (Str × Addr)) (fp : List Addr), PTs (X.blk s H scope (compEnvC scope cl C X.env) fp) ifs (tT (.of X) WF O1 tt))
    (he : ∀ (s : Shared) (H : Hp) (C : Addr) (cl : List (Str × Addr)) (fp : List Addr), CE (X.blk s H scope (compEnvC scope cl C X.env) fp) WF O1 elt te)
    (hsub : (ts.all fun k => (own.map (·.2)).contains k) = true := by rfl) (hs : ∀ x, foldedSetIterable iter X.env x = pure x := by intro _; rfl) :
    CN X W O (.ListComp elt [⟨tg, iter, ifs, 0⟩] scope pos) (eLc it g tt te (own.map (·.2))) :=
  peI (pe_lc (g := tG (.of X) O O1 ts g) (tt := tT (.of X) WF O1 tt) (te := tM (.of X) WF O1 te) hc hN hi ok hg ht he hs) fun σ H Q h => lc_read (fun k hk => by simpa using List.all_eq_true.mp hsub k hk) h
theorem cs_lcOwn (i : Nat) {y : Str} {py : Pos} {elt tg iter : Expr} {ifs : List Expr} {scope : Scope} {own : List (Str × Nat)} {pos spos : Pos} {it : AM} {g : GM} {tt : TMt} {te : EM} {ts : List Nat} (hc : X.calm = true) (hN : X.N.Nodup)
    (hsw : swapsWith (.ListComp elt [⟨tg, iter, ifs, 0⟩] scope pos) (some (.Name y py)) spos.line X.env = pure true) (hi : CIs X W O tg iter it) (ok : BlkOk X.N X.env.scope scope own)
    (hg : ∀ (s : Shared) (H : Hp) (C : Addr) (cl : List (Str × Addr)) (fp : List Addr), CG (X.blk s H scope (compEnvC scope cl C X.env) fp) O tg g O1 ts)
    (ht : ∀ (s : Shared) (H : Hp) (C : Addr) (cl : List (Str × Addr)) (fp : List Addr), PTs (X.blk s H scope (compEnvC scope cl C X.env) fp) ifs (tT (.of X) WF O1 tt))
    (he : ∀ (s : Shared) (H : Hp) (C : Addr) (cl : List (Str × Addr)) (fp : List Addr), CE (X.blk s H scope (compEnvC scope cl C X.env) fp) WF O1 elt te)
    (hy : X.N[i]? = some y := by rfl) (hyl : X.env.scope.names.lookup y = some .local := by rfl)
    (hsub : (ts.all fun k => (own.map (·.2)).contains k) = true := by rfl) (hs : ∀ x, foldedSetIterable iter X.env x = pure x := by intro _; rfl) :
    CS X W L O (.Assign [.Name y py] (.ListComp elt [⟨tg, iter, ifs, 0⟩] scope pos) spos) (sOwn i O.length (eLc it g tt te (own.map (·.2)))) (O.set i true) :=
  psI (ps_setLc (g := tG (.of X) O O1 ts g) (tt := tT (.of X) WF O1 tt) (te := tM (.of X) WF O1 te) hc hN hy hyl hsw hi ok hg ht he hs) fun D σ H h => lc_read (fun k hk => by simpa using List.all_eq_true.mp hsub k hk) (own_store (O' := O) h)
theorem set_read {σ : L2.St} {H : Hp} {i : Nat} {m : EM} {D : Ends} (h : tS (.of X) W L O (O.set i false) (sAsg (gSet i) (fE m)) D σ H) : tM (.of X) W O m σ H fun x H1 => gName i x σ H1 D.nx := by
  obtain ⟨fr, S, G, R, h⟩ := h
  have h' : SPst (.of X) W L (O.set i false) H G ((m fr S).toS fr fun v S1 => ofG (gSet i v fr) S1) D := by
    have e : sAsg (gSet i) (fE m) fr S = (m fr S).toS fr fun v S1 => ofG (gSet i v fr) S1 := by
      unfold sAsg fE
      cases m fr S <;> rfl
    rw [← e]
    exact h
  refine ⟨fr, S, G, R, h'.expr R fun v S1 u H1 G1 R1 st1 a1 r h1 => ?_⟩
  by_cases hl : i < fr.length
  · exact h1.nx (fr.set i (some v)) S1 (by simp [ofG, gSet, hl]) _ H1 G1 (R1.store (by rw [← R1.len]; exact hl) r) Adv.refl
  · exact (h1.good (by simp [ofG, gSet, hl])).elim
theorem cts_nil {X : Cx} {M : Mo} : PTs X [] (tT M WF O bYes) := ⟨fun pins s σ H Q I h => pts_nil.run pins s σ H Q I (by
  obtain ⟨fr, S, G, R, h⟩ := h
  exact h.here R rfl)⟩
theorem cts_one {X : Cx} {c : Expr} {t : TMt} (h : CT X WF O c t) : PTs X [c] (tT (.of X) WF O t) := pts_one h
end
end PD
namespace PD
open PySem PySem.Spec PyProof.Rows L2
section
variable {M : Mo} {W : WX} {O : Own} {σ : L2.St} {H : Hp} {fr : Fr} {S : Store} {G : Gh}
theorem Rel.ownAt (R : Rel M O σ H fr S G) {i : Nat} {ds : List PyData} (ho : O.has i) (h : ownL fr i = some ds) : ∃ a xs, σ[i]? = some (some (.ref a)) ∧ H a = some (.lst xs) ∧ RpAll M G.F H ds xs := by
  obtain ⟨u, h1, h2, _⟩ := R.slot i _ (ownL_some h)
  obtain ⟨a, e, _, _, _, c⟩ := h2 ho
  subst e
  rcases c with ⟨es, xs, e, q, r⟩ | ⟨_, _, e, _⟩ | ⟨_, _, _, e, _⟩
  · cases e
    exact ⟨a, xs, h1, q, r⟩
  · cases e
  · cases e
theorem Rel.ownSet (R : Rel M O σ H fr S G) {i : Nat} {ds es : List PyData} {a : Addr} {xs ys : List V} (ho : O.has i) (h : ownL fr i = some ds) (hs : σ[i]? = some (some (V.ref a))) (hH : H a = some (.lst xs)) (r : RpAll M G.F H es ys) :
    Rel M O σ (upd H a (.lst ys)) (fr.set i (some (.d (.list es)))) S G ∧ Adv G H G (upd H a (.lst ys)) := by
  have nfz : ¬ G.F a ∧ a ∉ G.rho ∧ G.H0 a = none := by
    obtain ⟨u, h1, h2, _⟩ := R.slot i _ (ownL_some h)
    obtain ⟨b, e, nf, nr, h0, _⟩ := h2 ho
    rw [h1] at hs
    have : u = .ref a := by simpa using hs
    rw [e] at this
    cases this
    exact ⟨nf, nr, h0⟩
  have k := (R.base.write (o := .lst ys) nfz.1 nfz.2.1 nfz.2.2 (.inl ⟨xs, hH⟩)).2
  exact R.ownWrite ho (ownL_some h) hs (.inl ⟨es, ys, rfl, upd_same, RpAll.keep k r⟩)
end
def sApp (i : Nat) (m : EM) : SM := fun fr S => match ownL fr i with
  | some ds => (m fr S).toS fr fun y S1 => (match y with
    | .d d => if ds.length < sizeLine then .nx (fr.set i (some (.d (.list (ds ++ [d]))))) S1 else .bad
    | _ => .bad)
  | none => .bad
def sExt (i : Nat) (m : EM) : SM := fun fr S => match ownL fr i with
  | some ds => (m fr S).toS fr fun y S1 => (match y with
    | .d (.list es) => if ds.length + es.length ≤ sizeLine then .nx (fr.set i (some (.d (.list (ds ++ es))))) S1 else .bad
    | _ => .bad)
  | none => .bad
def sPutI (i : Nat) (m k : EM) : SM := fun fr S => match ownL fr i with
  | some ds => (m fr S).toS fr fun y S1 => (k fr S1).toS fr fun z S2 => (match y, z with
    | .d d, .d (.int n) => (match ixN ds.length n with
      | some j => .nx (fr.set i (some (.d (.list (ds.set j d))))) S2
      | none => .bad)
    | _, _ => .bad)
  | none => .bad
def fPop (i : Nat) : FM := fun fr S => match ownL fr i with
  | some ds => (match ds[ds.length - 1]? with
    | some d => .ok (.d d, fr.set i (some (.d (.list ds.dropLast)))) S
    | none => .bad)
  | none => .bad
theorem RpAll.dropLast {M : Mo} {F : Addr → Prop} {H : Hp} : ∀ {ds : List PyData} {vs : List V}, RpAll M F H ds vs → RpAll M F H ds.dropLast vs.dropLast
  | _, _, .nil => .nil
  | _, _, .cons r .nil => .nil
  | _, _, .cons r (.cons q t) => .cons r (RpAll.dropLast (.cons q t))
theorem RpAll.set {M : Mo} {F : Addr → Prop} {H : Hp} {d : PyData} {v : V} (r : Rp M F H d v) : ∀ {ds : List PyData} {vs : List V} (j : Nat), RpAll M F H ds vs → RpAll M F H (ds.set j d) (vs.set j v)
  | _, _, _, .nil => .nil
  | _, _, 0, .cons _ t => .cons r t
  | _, _, j + 1, .cons q t => .cons q (RpAll.set r j t)
section
variable {X : Cx} {W : WX} {L O : Own} {st : Stmt} {e : Expr}
theorem has_of {i : Nat} (ho : (O[i]? == some true) = true) : O.has i := by simpa [Own.has] using ho
theorem cs_app (i : Nat) {m : EM} (ho : (O[i]? == some true) = true) (h : PS X st (tDrop (tBM X.K "list" rAppend (tVar i) (tCons (tM (.of X) W O m) tNil)))) : CS X W L O st (sApp i m) O := by
  have ho' := has_of ho
  refine psI h fun D σ H ⟨fr, S, G, R, h⟩ => ?_
  unfold sApp at h
  split at h
  · rename_i ds hds
    obtain ⟨a, xs, hs, hH, r⟩ := R.ownAt ho' hds
    refine ⟨_, hs, .inl ⟨rfl, xs, SqL.of hH⟩, fr, S, G, R, h.expr R fun y S1 u H1 G1 R1 st1 a1 ry h1 => ?_⟩
    split at h1
    · split at h1
      · rename_i hz
        obtain ⟨a', xs', hs', hH', r'⟩ := R1.ownAt ho' hds
        have ea : a' = a := by rw [hs] at hs'; cases hs'; rfl
        subst ea
        obtain ⟨R2, a2⟩ := R1.ownSet (ys := xs' ++ [u]) ho' hds hs' hH' (r'.append (.cons ry .nil))
        exact ⟨a', xs', u, rfl, rfl, hH', by rw [← r'.length]; exact hz, h1.nx _ S1 rfl _ _ G1 R2 a2⟩
      · exact (h1.good rfl).elim
    · exact (h1.good rfl).elim
  · exact (h.good rfl).elim
theorem cs_ext (i : Nat) {m : EM} (ho : (O[i]? == some true) = true) (h : PS X st (tDrop (tBM X.K "list" rExtend (tVar i) (tCons (tM (.of X) W O m) tNil)))) : CS X W L O st (sExt i m) O := by
  have ho' := has_of ho
  refine psI h fun D σ H ⟨fr, S, G, R, h⟩ => ?_
  unfold sExt at h
  split at h
  · rename_i ds hds
    obtain ⟨a, xs, hs, hH, r⟩ := R.ownAt ho' hds
    refine ⟨_, hs, .inl ⟨rfl, xs, SqL.of hH⟩, fr, S, G, R, h.expr R fun y S1 u H1 G1 R1 st1 a1 ry h1 => ?_⟩
    split at h1
    · split at h1
      · rename_i hz
        obtain ⟨a', xs', hs', hH', r'⟩ := R1.ownAt ho' hds
        have ea : a' = a := by rw [hs] at hs'; cases hs'; rfl
        subst ea
        cases ry with
        | lst f q rr =>
          obtain ⟨R2, a2⟩ := R1.ownSet (ys := xs' ++ _) ho' hds hs' hH' (r'.append rr)
          exact ⟨a', _, xs', _, rfl, rfl, hH', q, by rw [← r'.length, ← rr.length]; exact hz, h1.nx _ S1 rfl _ _ G1 R2 a2⟩
      · exact (h1.good rfl).elim
    · exact (h1.good rfl).elim
  · exact (h.good rfl).elim
theorem cs_putI (i : Nat) {m k : EM} (ho : (O[i]? == some true) = true) (h : PS X st (tAsg (tM (.of X) W O m) (gSub (tVar i) (tM (.of X) W O k) rSetL))) : CS X W L O st (sPutI i m k) O := by
  have ho' := has_of ho
  refine psI h fun D σ H ⟨fr, S, G, R, h⟩ => ?_
  unfold sPutI at h
  split at h
  · rename_i ds hds
    obtain ⟨a, xs, hs, hH, r⟩ := R.ownAt ho' hds
    refine ⟨fr, S, G, R, h.expr R fun y S1 u H1 G1 R1 st1 a1 ry h1 => ⟨_, hs, fr, S1, G1, R1, h1.expr R1 fun z S2 v H2 G2 R2 st2 a2 rz h2 => ?_⟩⟩
    split at h2
    · split at h2
      · rename_i hj
        obtain ⟨a', xs', hs', hH', r'⟩ := R2.ownAt ho' hds
        have ea : a' = a := by rw [hs] at hs'; cases hs'; rfl
        subst ea
        cases rz
        have ry2 := R1.base.rps st2 ry
        obtain ⟨R3, a3⟩ := R2.ownSet (ys := xs'.set _ u) ho' hds hs' hH' (RpAll.set ry2 _ r')
        exact ⟨a', xs', _, _, rfl, rfl, hH', by rw [← r'.length]; exact hj, h2.nx _ S2 rfl _ _ G2 R3 a3⟩
      · exact (h2.good rfl).elim
    · exact (h2.good rfl).elim
  · exact (h.good rfl).elim
theorem cf_pop (i : Nat) (ho : (O[i]? == some true) = true) (h : PE X e (tBM0 X.K "list" rPop (tVar i))) : CF X W O e (fPop i) := by
  have ho' := has_of ho
  refine peI h fun σ H Q ⟨fr, S, G, R, h⟩ => ?_
  unfold fPop at h
  split at h
  · rename_i ds hds
    split at h
    · rename_i d hd
      obtain ⟨a, xs, hs, hH, r⟩ := R.ownAt ho' hds
      obtain ⟨v, hv, rv⟩ := r.get hd
      obtain ⟨R2, a2⟩ := R.ownSet ho' hds hs hH r.dropLast
      refine ⟨_, hs, .inl ⟨rfl, xs, SqL.of hH⟩, a, xs, v, rfl, rfl, hH, by rw [← r.length]; exact hv, h.ok _ _ S rfl v _ G R2 a2 (a2.rps (x := .d d) rv)⟩
    · exact (h.good rfl).elim
  · exact (h.good rfl).elim
def sAug (i : Nat) (p : SV → SV → Store → Rs SV) (m : EM) : SM := fun fr S => match fr[i]? with
  | some (some x) => (m fr S).toS fr fun y S1 => (p x y S1).toS fr fun z S2 => .nx (fr.set i (some z)) S2
  | _ => .bad
def iaddV : SV → SV → Store → Rs SV
  | .d (.int i), .d (.int j), S => .ok (.d (.int (i + j))) S
  | .d (.str x), .d (.str y), S => if x.length + y.length ≤ sizeLine then .ok (.d (.str (x ++ y))) S else .bad
  | _, _, _ => .bad
end
end PD
namespace PD
open PySem PySem.Spec PyProof.Rows L2
def Gd (base : Heap) (A : Around) : Prop := A.guards = some [] ∧ (base.get? sysModules).isSome = true
structure FnG (P : Program) (w : World) (K : PySem.W.Frag) (mg : Str → Option Value) (base : Heap) (k : Nat) (f : Addr) (fd : FuncData) (ps : List Str) (sp : Sp) : Prop where
  len : ∀ vs H Q E, sp vs H Q E → vs.length = ps.length
  run : ∀ (A : Around) (outer : List Env) (s : Shared) (H : Hp) (args : Args) (us : List Value) (vs : List V) (Q : VK) (E : XK), Room k A → Gd base A → Env0 P w K mg base A outer s H →
    BindsTo s fd args (ps.zip us) → Vals vs us → sp vs H Q E → codeAny (model P w) A (.call (.ref f) args) (CR (L2.CX P w) outer P w H s Q E) s
section
variable {P : Program} {w : World} {K : PySem.W.Frag} {mg : Str → Option Value} {base : Heap} {k : Nat} {f : Addr} {fd : FuncData} {ps : List Str} {sp : Sp}
theorem FnG.mono {j : Nat} (F : FnG P w K mg base j f fd ps sp) (h : j ≤ k) : FnG P w K mg base k f fd ps sp :=
  ⟨F.len, fun A outer s H args us vs Q E hr => F.run A outer s H args us vs Q E (hr.mono h)⟩
theorem deeper_guards {A : Around} {env : Env} (h : A.guards = some []) : (A.deeper env).guards = some [] := by
  first
    | exact h
    | (unfold Around.deeper; exact h)
    | (simp [Around.deeper, h])
theorem fnG_of {x qual : Str} {st : Stmt} {N : List Str} (F : Fun K x qual st f fd) (Sc : FnScope N ps (defScope st)) (len : ∀ vs H Q E, sp vs H Q E → vs.length = ps.length)
    (hbody : ∀ (cdv : Value) (A : Around) (outer : List Env) (s : Shared) (H : Hp) (vs : List V) (Q : VK) (E : XK), Room k (A.deeper (envOfC qual (defScope st) s.heap.objs.size f cdv)) → Gd base (A.deeper (envOfC qual (defScope st) s.heap.objs.size f cdv)) → sp vs H Q E →
      ∃ t, PSs (cxOf (L2.CX P w) P w K mg base N qual (defScope st) f cdv A outer s H E) (defBody st) t ∧ t { nx := fun _ H' => Q .non H', rt := Q } (start N vs) H) :
    FnG P w K mg base (k + 1) f fd ps sp := by
  obtain ⟨oc, od, kV, doc, pm, an, cdv, ct, osl, rfl, lk, hcd⟩ := F.ex
  constructor
  · exact len
  intro A outer s H args us vs Q E hr hgd e0 hb r hsp
  have hlen : vs.length = ps.length := len vs H Q E hsp
  have old : ∀ (b : Addr) (o : Obj), base.get? b = some o → s.heap.get? b = some o := fun b o e => (e0.bs b o e).1
  have inK : K.In s.heap := e0.mod.kin.keeps old
  have cellsOk : ∀ y ∈ ps.zip us, (defScope st).names.lookup y.1 = some .local ∨
      ((defScope st).names.lookup y.1 = some .cell ∧ ((cellsFrom (s.heap.objs.size + 1) (defScope st).names []).lookup y.1).isSome = true) := by
    rintro ⟨n, v⟩ hy
    cases Sc.par n (List.of_mem_zip hy).1 with
    | inl q => exact Or.inl q
    | inr q => exact Or.inr ⟨q, PySem.W.cellsFrom_some _ _ _ (Or.inl q)⟩
  refine codeAny_call_function hr.depth (inK _ _ lk) rfl Sc.co Sc.gen rfl (PySem.W.codeRec_of inK hcd) ?_
  refine hb _ _ _ _ (wpAny_newFunctionEnv_cells Sc.kind cellsOk ?_)
  intro env he s1 x
  subst he
  refine ⟨(e0.mod.nolimit.keeps old).keeps x.toInCall.keep, codeAny_func ?_⟩
  obtain ⟨t, ht, hq⟩ := hbody cdv A outer s H vs Q E (hr.deeper _) ⟨deeper_guards hgd.1, hgd.2⟩ hsp
  have I0 := inv_start (CX := L2.CX P w) (E := E) (cd := cdv) (mg := mg) Sc hr.hd e0 hlen r x
  refine wpAny_mono (ht.run [] s1 (start N vs) H _ I0 hq) ?_ (fun e s' hs => hs)
  intro fl s' hs
  cases fl with
  | ret u =>
    obtain ⟨v, σ', H', J, rv, q⟩ := hs
    exact ⟨v, H', J.os, J.bare, J.base, J.hok, rv, q⟩
  | next =>
    obtain ⟨σ', H', J, q⟩ := hs
    exact ⟨V.non, H', J.os, J.bare, J.base, J.hok, rfl, q⟩
  | brk => exact hs.elim fun _ z => z.elim fun _ z => z.2.elim
  | cont => exact hs.elim fun _ z => z.elim fun _ z => z.2.elim
end
abbrev FN := List SV → Store → Rs SV
structure Ent (G : Gh) (H : Hp) (G' : Gh) (H' : Hp) : Prop where
  h0 : G'.H0 = H
  f0 : G'.F0 = G.F
  r0 : G'.rho0 = G.rho
def spOf (M : Mo) (n : Nat) (F : FN) : Sp := fun vs H Q E => ∃ S G xs, Base M H S G ∧ RpSs M G H xs vs ∧ xs.length = n ∧ F xs S ≠ .bad ∧
  (∀ z S', F xs S = .ok z S' → ∀ u H' G', Base M H' S' G' → Ent G H G' H' → RpS M G' H' z u → Q u H') ∧
  (∀ x S', F xs S = .exc x S' → ∀ H' G' cls d, Base M H' S' G' → Ent G H G' H' → XRep M G' H' x cls d → E cls d H')
def enter (G : Gh) (H : Hp) : Gh := { G with H0 := H, F0 := G.F, rho0 := G.rho }
def leave (G G' : Gh) : Gh := { G' with H0 := G.H0, F0 := G.F0, rho0 := G.rho0 }
section
variable {M : Mo} {G G' : Gh} {H H' : Hp} {S S' : Store}
theorem Base.enter (B : Base M H S G) : Base M H S (enter G H) :=
  ⟨B.len, B.ob, B.nd, B.frz, fun a o e _ => e, fun a h => h, fun a h => .inl h, ⟨[], by simp [PD.enter]⟩, fun a h => .inl h⟩
theorem Base.leave (B : Base M H S G) (B' : Base M H' S' G') (e : Ent G H G' H') : Base M H' S' (leave G G') ∧ Stp G H (leave G G') H' := by
  have keep : ∀ a o, H a = some o → a ∉ G.rho → H' a = some o := fun a o q n => B'.keep0 a o (by rw [e.h0]; exact q) (by rw [e.r0]; exact n)
  have newF : ∀ a, G'.F a → G.F a ∨ H a = none := fun a f => by
    have q := B'.newF a f
    rw [e.f0, e.h0] at q
    exact q
  have newR : ∀ a, a ∈ G'.rho → a ∈ G.rho ∨ H a = none := fun a m => by
    have q := B'.newR a m
    rw [e.r0, e.h0] at q
    exact q
  have sub : ∀ a, G.F a → G'.F a := fun a f => B'.sub0 a (by rw [e.f0]; exact f)
  have pre : ∃ more, G'.rho = G.rho ++ more := by
    obtain ⟨more, q⟩ := B'.pre
    exact ⟨more, by rw [q, e.r0]⟩
  refine ⟨⟨B'.len, B'.ob, B'.nd, B'.frz, fun a o q n => ?_, fun a f => sub a (B.sub0 a f), fun a f => ?_, ?_, fun a m => ?_⟩, ⟨rfl, rfl, rfl, sub, newF, pre, newR, keep, fun a q => ?_⟩⟩
  · have n' : a ∉ G.rho := fun m => (B.newR a m).elim n fun z => by
      have q' : G.H0 a = some o := q
      rw [z] at q'; cases q'
    exact keep a o (B.keep0 a o q n) n'
  · rcases newF a f with h | h
    · exact B.newF a h
    · exact .inr (B.new0 h).1
  · obtain ⟨m1, e1⟩ := B.pre
    obtain ⟨m2, e2⟩ := pre
    exact ⟨m1 ++ m2, by show G'.rho = G.rho0 ++ (m1 ++ m2); rw [e2, e1, List.append_assoc]⟩
  · rcases newR a m with h | h
    · exact B.newR a h
    · exact .inr (B.new0 h).1
  · cases p : H a with
    | none => rfl
    | some o =>
      by_cases m : a ∈ G.rho
      · obtain ⟨more, ep⟩ := pre
        obtain ⟨x, hx⟩ := B'.rho_get (a := a) (by rw [ep]; exact List.mem_append_left _ m)
        rcases hx.some with ⟨_, z⟩ | ⟨_, _, _, z⟩ <;> (rw [q] at z; cases z)
      · rw [keep a o p m] at q; cases q
end
section
variable {X : Cx} {W : WX} {O : Own} {k : Nat} {f : Addr} {fd : FuncData} {ps : List Str} {sp : Sp} {x : Str} {p pos : Pos} {e : Expr} {es : List Expr}
abbrev Lets (X : Cx) (W : WX) : Prop := Takes X W
theorem run_g {pins : List (Addr × Obj)} {σ : L2.St} {H : Hp} {s : Shared} {Q : VK} {us : List Value} {vs : List V} {ds : List Value} {dvs : List V} (F : FnG X.prog X.w X.K X.mg X.base k f fd ps sp) (hr : Room k X.A) (hgd : Gd X.base X.A)
    (hb : Binds X.K fd ps ds) (hd : Vals dvs ds) (tk : Lets X W) (I : Inv X pins σ H s) (r : Vals vs us) (h : sp (vs ++ dvs) H Q (WE W σ)) : wpAny (model X.prog X.w) X.A (call (.ref f) us) (EP X pins σ Q) X.xe s := by
  have r2 := r.append hd
  have hl : (us ++ ds).length = ps.length := r2.length.symm.trans (F.len _ _ _ _ h)
  refine wpAny_call (codeAny_mono (F.run X.A X.stack s H ⟨us, []⟩ (us ++ ds) (vs ++ dvs) Q (WE W σ) hr hgd I.env0 (hb s us I.kIn hl) r2 h) ?_)
  intro r s' hq
  match r, hq with
  | .error e, hq => exact passAt tk σ pins H s e s' I hq
  | .ok (.ret u), hq => exact I.after hq
  | .ok .next, hq => exact hq.elim
  | .ok .brk, hq => exact hq.elim
  | .ok .cont, hq => exact hq.elim
theorem pe_g {t : TA} {ds : List Value} {dvs : List V} (F : FnG X.prog X.w X.K X.mg X.base k f fd ps sp) (hr : Room k X.A) (hgd : Gd X.base X.A) (hg : Gl X x) (hm : X.mg x = some (.ref f)) (hk : PySem.W.keepIn X.K (.ref f) = true) (hb : Binds X.K fd ps ds) (hd : Vals dvs ds) (tk : Lets X W)
    (ha : PA X (e :: es) t) (hdb : (x == ("__debug__" : Str)) = false := by decide) (he : starEach (e :: es) X.env = (false, eval e X.env) :: starEach es X.env := by rfl) (hpl : (backTo pos (starEach es X.env)).any (·.1) = false := by rfl) :
    PE X (.Call (.Name x p) (e :: es) [] pos) (fun σ H Q => t σ H fun vs H1 => sp (vs ++ dvs) H1 Q (WE W σ)) := by
  constructor
  intro pins s σ H Q I h
  refine wpAny_Call_Name_kw (ld_glob I hg hm (PySem.W.callWith_K (h₀ := X.base) I.ok.mod.kin hk ?_ he hpl) hdb)
  refine thn (ha.run pos pins s σ H _ I h) ?_
  rintro us s1 ⟨vs, H1, I1, r, q⟩
  exact ⟨I1.kIn, run_g F hr hgd hb hd tk I1 r q⟩
theorem sp_of {n : Nat} {F : FN} {σ : L2.St} {H : Hp} {fr : Fr} {S : Store} {G : Gh} {Q : VK} {xs : List SV} {vs : List V} (R : Rel (.of X) O σ H fr S G) (rs : RpSs (.of X) G H xs vs) (hn : xs.length = n) (h : Pst (.of X) W O σ H fr G (F xs S) (RpS (.of X)) Q) :
    spOf (.of X) n F vs H Q (WE W σ) := by
  refine ⟨S, G, xs, R.base, rs, hn, h.good, fun z S' e u H' G' B' en r => ?_, fun x S' e H' G' cls d B' en r => ?_⟩
  · obtain ⟨B2, st⟩ := R.base.leave B' en
    exact h.ok z S' e u H' _ (R.step st B2) st (show RpS (.of X) (leave G G') H' z u from by cases z <;> exact r)
  · obtain ⟨B2, st⟩ := R.base.leave B' en
    exact h.exc x S' e H' _ cls d (R.step st B2) st r
def eCall (n : Nat) (F : FN) (m : AM) : EM := fun fr S => (m fr S).bind fun xs S1 => if xs.length = n then F xs S1 else .bad
theorem ce_call {n : Nat} {F : FN} {m : AM} (Fn : FnG X.prog X.w X.K X.mg X.base k f fd ps (spOf (.of X) n F)) (hr : Room k X.A) (hgd : Gd X.base X.A) (hg : Gl X x) (hm : X.mg x = some (.ref f)) (hk : PySem.W.keepIn X.K (.ref f) = true) (hb : Binds X.K fd ps []) (tk : Lets X W)
    (ha : CA X W O (e :: es) m) (hdb : (x == ("__debug__" : Str)) = false := by decide) (he : starEach (e :: es) X.env = (false, eval e X.env) :: starEach es X.env := by rfl) (hpl : (backTo pos (starEach es X.env)).any (·.1) = false := by rfl) :
    CE X W O (.Call (.Name x p) (e :: es) [] pos) (eCall n F m) :=
  peI (pe_g Fn hr hgd hg hm hk hb .nil tk ha hdb he hpl) fun σ H Q ⟨fr, S, G, R, h⟩ => ⟨fr, S, G, R, h.split fun xs S1 vs H1 G1 R1 st1 rs h1 => by
    rw [List.append_nil]
    by_cases hn : xs.length = n
    · rw [if_pos hn] at h1
      exact sp_of R1 rs hn h1
    · rw [if_neg hn] at h1
      exact h1.not_bad.elim⟩
end
def bodyF (N : Nat) (m : SM) : FN := fun xs S => match m (xs.map some ++ List.replicate (N - xs.length) none) S with
  | .rt v S' => .ok v S'
  | .nx _ S' => .ok (.d .none) S'
  | .exc x _ S' => .exc x S'
  | _ => .bad
section
variable {P : Program} {w : World} {K : PySem.W.Frag} {mg : Str → Option Value} {base : Heap} {k : Nat} {f : Addr} {fd : FuncData} {ps : List Str}
theorem Own.no (n i : Nat) : ¬ Own.has (List.replicate n false) i := fun h => by
  unfold Own.has at h
  rw [List.getElem?_replicate] at h
  split at h <;> cases h
structure Ctx (X : Cx) (W : WX) (k : Nat) : Prop where
  hr : Room k X.A
  hs : Gd X.base X.A
  tk : Lets X W
  ps : PassesOwn (model X.prog X.w) X.A X.env X.xe
theorem def_ok {x qual : Str} {st : Stmt} {N : List Str} {m : SM} {O' : Own} {n : Nat} (F : Fun K x qual st f fd) (Sc : FnScope N ps (defScope st)) (hn : ps.length = n)
    (hbody : ∀ (cdv : Value) (A : Around) (outer : List Env) (s : Shared) (H : Hp) (E : XK), Ctx (cxOf (L2.CX P w) P w K mg base N qual (defScope st) f cdv A outer s H E) (fun cls d _ H => E cls d H) k →
      CSs (cxOf (L2.CX P w) P w K mg base N qual (defScope st) f cdv A outer s H E) (fun cls d _ H => E cls d H) [] (List.replicate N.length false) (defBody st) m O') :
    FnG P w K mg base (k + 1) f fd ps (spOf ⟨w, K, mg⟩ n (bodyF N.length m)) := by
  have rlen : ∀ {M : Mo} {G : Gh} {H : Hp} {xs : List SV} {vs : List V}, RpSs M G H xs vs → xs.length = vs.length := fun r => Paired.length r
  refine fnG_of F Sc (fun vs H Q E ⟨S, G, xs, _, rs, hl, _⟩ => by rw [← rlen rs, hl, hn]) fun cdv A outer s H vs Q E hr hgd ⟨S, G, xs, B, rs, hl, good, ok, exc⟩ => ?_
  refine ⟨_, hbody cdv A outer s H E ⟨hr, hgd, takes_of rfl rfl rfl rfl, passes_of rfl⟩, ?_⟩
  have hlN : ps.length ≤ N.length := by
    have := congrArg List.length Sc.pre
    rw [List.length_take] at this
    omega
  have hvl := rlen rs
  have getM : ∀ (i : Nat) (v : SV), (xs.map some ++ List.replicate (N.length - xs.length) none)[i]? = some (some v) → xs[i]? = some v := fun i v e => by
    by_cases hi : i < xs.length
    · rw [List.getElem?_append_left (by simpa using hi), List.getElem?_map, List.getElem?_eq_getElem hi] at e
      rw [List.getElem?_eq_getElem hi]
      simpa using e
    · rw [List.getElem?_append_right (by simpa using hi), List.getElem?_replicate] at e
      split at e <;> cases e
  have paired_get : ∀ {xs : List SV} {vs : List V} {i : Nat} {v : SV}, RpSs ⟨w, K, mg⟩ G H xs vs → xs[i]? = some v → ∃ u, vs[i]? = some u ∧ RpS ⟨w, K, mg⟩ G H v u := by
    intro xs vs i v r
    induction r generalizing i with
    | nil => intro e; simp at e
    | cons q t ih =>
      intro e
      cases i with
      | zero =>
        simp at e
        subst e
        exact ⟨_, by simp, q⟩
      | succ i =>
        obtain ⟨u, h1, h2⟩ := ih (by simpa using e)
        exact ⟨u, by simpa using h1, h2⟩
  have R : Rel ⟨w, K, mg⟩ (List.replicate N.length false) (L2.start N vs) H (xs.map some ++ List.replicate (N.length - xs.length) none) S (enter G H) := by
    refine ⟨B.enter, ?_, fun i v e => ?_, fun i j v w' a oi => absurd oi (Own.no _ _)⟩
    · unfold L2.start
      simp [hvl]
    · obtain ⟨u, h1, h2⟩ := paired_get rs (getM i v e)
      have hi : i < vs.length := (List.getElem?_eq_some_iff.mp h1).1
      refine ⟨u, ?_, fun oi => absurd oi (Own.no _ _), fun _ => by cases v <;> exact h2⟩
      unfold L2.start
      rw [List.getElem?_append_left (by simpa using hi), List.getElem?_map, h1]
      rfl
  have ent : ∀ {G' : Gh} {H' : Hp}, Adv (enter G H) H G' H' → Ent G H G' H' := fun a => ⟨a.h0, a.f0, a.r0⟩
  refine ⟨_, S, enter G H, R, fun e => good ?_, fun fr' S' e σ' H' G' R' a => ?_, fun fr' S' e => ?_, fun fr' S' e => ?_, fun v S' e u H' G' B' a r => ?_, fun x fr' S' e σ' H' G' cls d R' a r => ?_⟩
  · unfold bodyF; rw [e]
  · exact ok (.d .none) S' (by unfold bodyF; rw [e]) .non H' G' R'.base (ent a) .non
  · exact (good (by unfold bodyF; rw [e])).elim
  · exact (good (by unfold bodyF; rw [e])).elim
  · exact ok v S' (by unfold bodyF; rw [e]) u H' G' B' (ent a) r
  · exact exc x S' (by unfold bodyF; rw [e]) H' G' cls d R'.base (ent a) r
theorem def_bad {n : Nat} (hl : ps.length = n) : FnG P w K mg base k f fd ps (spOf ⟨w, K, mg⟩ n fun _ _ => .bad) :=
  ⟨fun vs H Q E ⟨_, _, _, _, _, _, g, _⟩ => (g rfl).elim, fun A outer s H args us vs Q E _ _ _ _ _ ⟨_, _, _, _, _, _, g, _⟩ => (g rfl).elim⟩
end
end PD
namespace PD
open PySem PySem.Spec PyProof.Rows L2
section
variable {M : Mo} {O : Own} {σ : L2.St} {H H1 : Hp} {fr : Fr} {S : Store} {G G1 : Gh}
theorem Rel.alloc (R1 : Rel M O σ H1 fr S G1) (st : Stp G H G1 H1) {p : Addr} {o : Ob} (hp : H p = none) (h0 : G1.H0 p = none) (nf : ¬ G1.F p) (nr : p ∉ G1.rho) (ob : ObR M G1 H1 o p) (no : ∀ i v, O.has i → fr[i]? = some (some v) → σ[i]? ≠ some (some (V.ref p))) :
    ∃ G2, Rel M O σ H1 fr (S ++ [o]) G2 ∧ Stp G H G2 H1 ∧ RpS M G2 H1 (.obj S.length) (.ref p) := by
  have k : Keeps G1.F G1.F H1 H1 := Keeps.refl
  let G2 : Gh := { G1 with rho := G1.rho ++ [p] }
  have pr : ∃ more, G2.rho = G1.rho ++ more := ⟨[p], rfl⟩
  have obk : ∀ {o a}, ObR M G1 H1 o a → ObR M G2 H1 o a := fun {o a} q => by
    cases o with
    | lst ds =>
      obtain ⟨xs, e, r⟩ := q
      exact ⟨xs, e, RpSs.keep (G' := G2) k pr r⟩
    | ins C fs =>
      obtain ⟨ca, dx, vs, e1, e2, r⟩ := q
      exact ⟨ca, dx, vs, e1, e2, RpF.keep (G' := G2) k pr r⟩
  have B : Base M H1 (S ++ [o]) G2 := by
    refine ⟨by show (S ++ [o]).length = (G1.rho ++ [p]).length; simp [R1.base.len], fun r x a h1 h2 => ?_, ?_, fun a f => ⟨fun m => ?_, (R1.base.frz a f).2⟩, R1.base.keep0, R1.base.sub0, R1.base.newF, ?_, fun a m => ?_⟩
    · by_cases hr : r < S.length
      · rw [List.getElem?_append_left hr] at h1
        have hr' : r < G1.rho.length := by rw [← R1.base.len]; exact hr
        have h2' : (G1.rho ++ [p])[r]? = some a := h2
        rw [List.getElem?_append_left hr'] at h2'
        exact obk (R1.base.ob r x a h1 h2')
      · rw [List.getElem?_append_right (by omega)] at h1
        have h2' : (G1.rho ++ [p])[r]? = some a := h2
        rw [List.getElem?_append_right (by rw [← R1.base.len]; omega)] at h2'
        have e1 : r - S.length = 0 := by
          have := (List.getElem?_eq_some_iff.mp h1).1
          simp at this
          omega
        rw [e1] at h1
        have e2 : r - G1.rho.length = 0 := by rw [← R1.base.len]; exact e1
        rw [e2] at h2'
        simp at h1 h2'
        subst h1 h2'
        exact obk ob
    · show (G1.rho ++ [p]).Nodup
      rw [List.nodup_append]
      exact ⟨R1.base.nd, by simp, fun a ha b hb => by
        simp at hb
        subst hb
        intro e
        exact nr (by rw [← e]; exact ha)⟩
    · rcases List.mem_append.mp (show a ∈ G1.rho ++ [p] from m) with q | q
      · exact (R1.base.frz a f).1 q
      · simp at q
        subst q
        exact nf f
    · obtain ⟨more, e⟩ := R1.base.pre
      exact ⟨more ++ [p], by show G1.rho ++ [p] = G1.rho0 ++ (more ++ [p]); rw [e, List.append_assoc]⟩
    · rcases List.mem_append.mp (show a ∈ G1.rho ++ [p] from m) with q | q
      · exact R1.base.newR a q
      · simp at q
        subst q
        exact .inr h0
  refine ⟨G2, ⟨B, R1.len, fun i v e => ?_, R1.own⟩, ⟨st.h0, st.f0, st.r0, st.sub, st.newF, ?_, fun a m => ?_, st.keep, st.there⟩, ⟨p, ?_, rfl⟩⟩
  · obtain ⟨u, h1, h2, h3⟩ := R1.slot i v e
    refine ⟨u, h1, fun oi => ?_, fun oi => RpS.keep (G' := G2) k pr (h3 oi)⟩
    obtain ⟨a, e1, nfa, nra, h0a, c⟩ := h2 oi
    refine ⟨a, e1, nfa, fun m => ?_, h0a, c⟩
    rcases List.mem_append.mp (show a ∈ G1.rho ++ [p] from m) with q | q
    · exact nra q
    · simp at q
      subst q
      subst e1
      exact no i v oi e h1
  · obtain ⟨more, e⟩ := st.pre
    exact ⟨more ++ [p], by show G1.rho ++ [p] = _; rw [e, List.append_assoc]⟩
  · rcases List.mem_append.mp (show a ∈ G1.rho ++ [p] from m) with q | q
    · exact st.newR a q
    · simp at q
      subst q
      exact .inr hp
  · show (G1.rho ++ [p])[S.length]? = some p
    rw [R1.base.len, List.getElem?_append_right (Nat.le_refl _)]
    simp
theorem Rel.storeSet (R : Rel M O σ H fr S G) {r : Nat} {a : Addr} {o : Ob} {ho : HO} (hr : G.rho[r]? = some a) (ob : Keeps G.F G.F H (upd H a ho) → ObR M G (upd H a ho) o a) : Rel M O σ (upd H a ho) fr (S.set r o) G ∧ Adv G H G (upd H a ho) := by
  have ha : a ∈ G.rho := List.mem_of_getElem? hr
  have nf : ∀ b, G.F b → b ≠ a := fun b f z => (R.base.frz b f).1 (by rw [z]; exact ha)
  have k : Keeps G.F G.F H (upd H a ho) := ⟨fun _ h => h, fun b u f h => by rw [upd_ne (nf b f)]; exact h, fun b xs h => by rw [upd_ne (show b ≠ a from fun z => R.base.no_tup h (by rw [z]; exact ha))]; exact h,
    fun b x u h => by rw [upd_ne (show b ≠ a from fun z => R.base.no_frz h (by rw [z]; exact ha))]; exact h⟩
  have adv : Adv G H G (upd H a ho) := ⟨rfl, rfl, rfl, k, ⟨[], by simp⟩⟩
  have B : Base M (upd H a ho) (S.set r o) G := by
    refine ⟨by rw [List.length_set]; exact R.base.len, fun q x b h1 h2 => ?_, R.base.nd, fun b f => ⟨(R.base.frz b f).1, ?_⟩, fun b u h m => ?_, R.base.sub0, R.base.newF, R.base.pre, R.base.newR⟩
    · have hrl : r < G.rho.length := (List.getElem?_eq_some_iff.mp hr).1
      by_cases e : r = q
      · subst e
        rw [List.getElem?_set_self (by rw [R.base.len]; exact hrl)] at h1
        rw [hr] at h2
        cases h1
        cases h2
        exact ob k
      · rw [List.getElem?_set_ne e] at h1
        have nb : b ≠ a := fun z => by
          subst z
          exact e ((List.getElem?_inj hrl R.base.nd).mp (hr.trans h2.symm))
        have q := R.base.ob q x b h1 h2
        cases x with
        | lst ds =>
          obtain ⟨xs, e, r⟩ := q
          exact ⟨xs, by rw [upd_ne nb]; exact e, RpSs.keep k ⟨[], by simp⟩ r⟩
        | ins C fs =>
          obtain ⟨ca, dx, vs, e1, e2, r⟩ := q
          exact ⟨ca, dx, vs, e1, by rw [upd_ne nb]; exact e2, RpF.keep k ⟨[], by simp⟩ r⟩
    · have q := (R.base.frz b f).2
      unfold FzOk at q ⊢
      rw [upd_ne (nf b f)]
      exact q
    · have nb : b ≠ a := fun z => by
        subst z
        rcases R.base.newR b ha with q | q
        · exact m q
        · rw [q] at h; cases h
      rw [upd_ne nb]
      exact R.base.keep0 b u h m
  refine ⟨⟨B, R.len, fun i v e => ?_, R.own⟩, adv⟩
  obtain ⟨u, h1, h2, h3⟩ := R.slot i v e
  refine ⟨u, h1, fun oi => ?_, fun oi => RpS.keep k ⟨[], by simp⟩ (h3 oi)⟩
  obtain ⟨b, e1, nfb, nrb, h0b, c⟩ := h2 oi
  exact ⟨b, e1, nfb, nrb, h0b, Cont.keep k (fun _ q => by rw [upd_ne (show b ≠ a from fun z => nrb (by rw [z]; exact ha))]; exact q) c⟩
end
def eNew (m : EM) : EM := fun fr S => (m fr S).bind fun v S1 => match v with
  | .d (.list ds) => .ok (.obj S1.length) (S1 ++ [.lst (ds.map .d)])
  | _ => .bad
def mkObj : List SV → Store → Rs SV := fun xs S => if xs.length ≤ sizeLine then .ok (.obj S.length) (S ++ [.lst xs]) else .bad
def sPutO (m mo mi : EM) : SM := fun fr S => (m fr S).toS fr fun v S1 => (mo fr S1).toS fr fun o S2 => (mi fr S2).toS fr fun i S3 => match o, i with
  | .obj r, .d (.int k) => (match S3[r]? with
    | some (.lst xs) => (match ixN xs.length k with
      | some j => .nx fr (S3.set r (.lst (xs.set j v)))
      | none => .bad)
    | _ => .bad)
  | _, _ => .bad
theorem RpSs.set {M : Mo} {G : Gh} {H : Hp} {x : SV} {v : V} (r : RpS M G H x v) : ∀ {xs : List SV} {vs : List V} (j : Nat), RpSs M G H xs vs → RpSs M G H (xs.set j x) (vs.set j v)
  | _, _, _, .nil => .nil
  | _, _, 0, .cons _ t => .cons r t
  | _, _, j + 1, .cons q t => .cons q (RpSs.set r j t)
theorem RpAll.sv {M : Mo} {G : Gh} {H : Hp} : ∀ {ds : List PyData} {vs : List V}, RpAll M G.F H ds vs → RpSs M G H (ds.map .d) vs
  | _, _, .nil => .nil
  | _, _, .cons r t => .cons r (RpAll.sv t)
section
variable {X : Cx} {W : WX} {L O : Own} {pos : Pos} {e : Expr} {st : Stmt}
theorem ce_new {m : EM} (h : CN X W O e m) : CE X W O e (eNew m) := by
  refine peI h fun σ H Q ⟨fr, S, G, R, h⟩ => ⟨fr, S, G, R, fun e => h.good (by unfold eNew; rw [e]; rfl), fun z S' e u H' G' R' st ⟨a, eu, t⟩ => ?_, fun x S' e => h.exc x S' (by unfold eNew; rw [e]; rfl)⟩
  subst eu
  rcases t.cont with ⟨ds, vs, ez, q, r⟩ | ⟨ds, _, ez, _⟩ | ⟨ds, _, _, ez, _⟩
  · subst ez
    obtain ⟨G2, R2, st2, r2⟩ := R'.alloc (o := .lst (ds.map .d)) st t.new (by rw [st.h0]; exact (R.base.new0 t.new).1) t.nf t.nr ⟨vs, q, r.sv⟩ fun i v o e1 e2 => R.own_there o e1 e2 t.new
    exact h.ok _ _ (by unfold eNew; rw [e]; rfl) _ H' G2 R2 st2 r2
  · subst ez
    exact (h.good (by unfold eNew; rw [e]; rfl)).elim
  · subst ez
    exact (h.good (by unfold eNew; rw [e]; rfl)).elim
theorem ce_obj {es : List Expr} {m : AM} (h : CA X W O es m) : CE X W O (.List es pos) (eA mkObj m) := by
  refine peI (pe_lst h) fun σ H Q ⟨fr, S, G, R, h⟩ => ⟨fr, S, G, R, h.split fun xs S1 us H1 G1 R1 st1 rs h1 => ?_⟩
  unfold mkObj at h1
  split at h1
  · rename_i hz
    have hl : xs.length = us.length := Paired.length rs
    refine ⟨by rw [← hl]; exact hz, fun p hp => ?_⟩
    obtain ⟨B, st⟩ := R1.base.newT (o := .lst us) hp
    obtain ⟨h0, nr, nf⟩ := R1.base.new0 hp
    obtain ⟨G2, R2, st2, r2⟩ := (R1.step st B).alloc (o := .lst xs) st hp h0 nf nr ⟨us, upd_same, R1.base.rpss st rs⟩ fun i v o e1 e2 => R1.own_there o e1 e2 hp
    exact h1.ok _ _ rfl _ _ G2 R2 st2 r2
  · exact h1.not_bad.elim
theorem cs_putO {m mo mi : EM} (h : PS X st (tAsg (tM (.of X) W O m) (gSub (tM (.of X) W O mo) (tM (.of X) W O mi) rSetL))) : CS X W L O st (sPutO m mo mi) O := by
  refine psI h fun D σ H ⟨fr, S, G, R, h⟩ => ⟨fr, S, G, R, h.expr R fun v S1 u H1 G1 R1 st1 a1 rv h1 => ⟨fr, S1, G1, R1, h1.expr R1 fun o S2 ou H2 G2 R2 st2 a2 ro h2 => ⟨fr, S2, G2, R2, h2.expr R2 fun i S3 iu H3 G3 R3 st3 a3 ri h3 => ?_⟩⟩⟩
  split at h3
  · split at h3
    · rename_i hs
      split at h3
      · rename_i hj
        have ro3 := R2.base.rps st3 ro
        have rv3 := R1.base.rps (st2.trans st3) rv
        cases ri
        obtain ⟨a, rfl, ⟨vs, e, rs⟩, hr⟩ := R3.base.store_at hs ro3
        have hl : _ = vs.length := Paired.length rs
        obtain ⟨R4, a4⟩ := R3.storeSet (o := .lst (List.set _ _ v)) (ho := .lst (vs.set _ u)) hr fun k => ⟨vs.set _ u, upd_same, RpSs.keep k ⟨[], by simp⟩ (RpSs.set rv3 _ rs)⟩
        exact ⟨a, vs, _, _, rfl, rfl, e, by rw [← hl]; exact hj, h3.nx _ _ rfl _ _ G3 R4 a4⟩
      · exact (h3.good rfl).elim
    · exact (h3.good rfl).elim
  · exact (h3.good rfl).elim
end
end PD
namespace PD
open PySem PySem.Spec PyProof.Rows L2
set_option maxHeartbeats 1000000 in
theorem meets_enum1 {v : Value} {o : Obj} {H : Heap → Prop} (B : Begins v o H) :
    Meets (Builtin.«enumerate.__new__» ⟨[.type "enumerate", v], []⟩) (fun _ R s => H s.heap ∧
      R (.ok (.ret (.ref (s.heap.push o).objs.size)))
        { s with heap := (s.heap.push o).push { cls := .type "enumerate", data := .fields #[.none, .bool false, .ref s.heap.objs.size, rawInt 0, .none, .none] } }) := by
  refine .of_wp ?_
  intro prog w A R s h
  obtain ⟨hp, g, d, tk, os⟩ := s
  obtain ⟨h1, h⟩ := h
  have subs := sub_enumerate
  have q1 : ∀ {A' : Around} {E : Value → Shared → Prop} {Q : Value → Shared → Prop}, Q (.ref hp.objs.size) ⟨hp.push o, g, d, tk, os⟩ → wpAny (model prog w) A' (pyIter v) Q E ⟨hp, g, d, tk, os⟩ := by
    intro A' E Q q
    exact B.iter prog w _ _ ⟨hp, g, d, tk, os⟩ _ h1 q
  wp_walk using q1
  refine wpAny_stack_any ?_
  intro st
  refine wpAny_pure ?_
  split
  · rename_i c _ _ _ _ _
    cases (c == Value.type "enumerate") <;> (wp_walk using q1; exact ⟨_, rfl, h⟩)
  · wp_walk using q1
    exact ⟨_, rfl, h⟩
section
variable {prog : Program} {w : World} {A : Around} {E : Value → Shared → Prop} {s : Shared}
theorem enum1_begins {v : Value} {o : Obj} {H : Heap → Prop} {Q : Value → Shared → Prop} (B : Begins v o H) (h1 : H s.heap)
    (h : ∀ h', IsEnum h' (s.heap.objs.size + 1) s.heap.objs.size 0 .none → h'.get? s.heap.objs.size = some o → (∀ b o, s.heap.get? b = some o → h'.get? b = some o) → Q (.ref (s.heap.objs.size + 1)) { s with heap := h' }) :
    wpAny (model prog w) A (call (.type "enumerate") [v]) Q E s := by
  have hz : (s.heap.push o).objs.size = s.heap.objs.size + 1 := Heap.size_push ..
  have he := Heap.get?_push_size (s.heap.push o) (o := { cls := .type "enumerate", data := .fields #[.none, .bool false, .ref s.heap.objs.size, rawInt 0, .none, .none] }) rfl
  rw [hz] at he
  refine callType_new F.called_enumerate (by decide) (F.typeCall_enumerate_1 _) (F.newCall_enumerate_1 _) (fun obj => F.args_object_init_2 obj _) F.entry_enumerate_new (meets_enum1 B) ⟨h1, ?_⟩
  show _ ∧ _
  rw [hz]
  exact ⟨⟨_, he, rfl⟩, h _ he (Heap.get?_push_of_some _ (Heap.get?_push_size _ B.free)) fun b o x => Heap.get?_push_of_some _ (Heap.get?_push_of_some _ x)⟩
end
def ItD (R : Nat → Hp → V → Prop) (more stop : Nat → Hp → Prop) : It :=
  ⟨more, fun i H v H' => ∃ T x, v = .ref T ∧ H T = none ∧ H' = upd H T (.tup [.int (i : Nat), x]) ∧ R i H x, stop⟩
theorem turn_D {P : Program} {w : World} {K : PySem.W.Frag} {elts : List Expr} {kk : Nat} {tpos : Pos} {e it : Addr} {R : Nat → Hp → V → Prop} {more stop : Nat → Hp → Prop} {St : Nat → Heap → Prop} (hei : e ≠ it)
    (keep : ∀ i h h', St i h → (∀ o, h.get? it = some o → h'.get? it = some o) → St i h') (obj : ∀ i h, St i h → ∃ o, h.get? it = some o ∧ ∀ v, o.data ≠ .cell v)
    (draws : ∀ (X : Cx), X.prog = P → X.w = w → X.K = K → X.calm = true → ∀ (i : Nat) (pins : List (Addr × Obj)) (s : Shared) (σ : L2.St) (H : Hp), Inv X pins σ H s → St i s.heap → (more i H ∨ stop i H) →
      ∃ (n : Nat) (fp : List Addr) (Pv : Nat → Value → Prop) (Sd : Nat → Heap → Prop), Draws P w X.A.in1 it fp n Pv Sd ∧ e ∉ fp ∧ Sd i s.heap ∧ (∀ h', Sd (i + 1) h' → St (i + 1) h') ∧ (more i H → i < n) ∧ (stop i H → i = n) ∧ ∀ x, Pv i x → ∃ v, RelV v x ∧ R i H v) :
    Turn P w K (.Tuple elts kk tpos) (ItD R more stop) [e, it] e (fun i h => (∃ old, IsEnum h e it ((i : Nat) : Int) old) ∧ St i h) where
  mem := by simp
  obj := fun i h st b hb => by
    obtain ⟨⟨old, he⟩, hs⟩ := st
    rcases List.mem_cons.mp hb with z | z
    · rw [z]
      exact ⟨_, he, fun v q => nomatch q⟩
    · rw [List.mem_singleton.mp z]
      exact obj i h hs
  keep := fun i h h' st k => by
    obtain ⟨⟨old, he⟩, hs⟩ := st
    exact ⟨⟨old, k e (by simp) _ he⟩, keep i h h' hs fun o q => k it (by simp) o q⟩
  item := by
    intro X hP hw hK hc i pins s σ H E I hf st hg
    obtain ⟨n, fp, Pv, Sd, D, hef, sd, next, lt, _, rel⟩ := draws X hP hw hK hc i pins s σ H I st.2 (.inl hg)
    subst hP hw hK
    obtain ⟨⟨old, he⟩, hs⟩ := st
    have hel : e < s.heap.objs.size := Heap.lt_size he
    refine wpAny_pyNext_enum_itemD D he sd (lt hg) hei hef ?_
    intro x h' tk hP ho hs' hT hsz hk
    obtain ⟨v, rv, rr⟩ := rel x hP
    refine ⟨_, rfl, wpAny_letOwnedTupleGo_enum (s := { s with heap := h', toks := tk + 1 }) ho ?_⟩
    intro h'' he' sb
    have hT2 : h''.get? s.heap.objs.size = some { cls := .type "tuple", data := .seq #[.int i tk, x] } := (sb.2 _ (Nat.ne_of_gt hel)).trans hT
    have new : ObjOk X.prog X.w (upd H s.heap.objs.size (.tup [.int (i : Nat), v])) h'' s.heap.objs.size (.tup [.int (i : Nat), v]) := by
      refine ⟨?_, [.int i tk, x], .cons ⟨_, rfl⟩ (.cons rv .nil), ⟨_, hT2, rfl, _, rfl⟩⟩
      show 2 ≤ sizeLine
      decide
    have hit : it < s.heap.objs.size := by
      obtain ⟨o, q, _⟩ := obj i _ hs
      exact Heap.lt_size q
    have I1 : Inv X pins σ (upd H s.heap.objs.size (.tup [.int (i : Nat), v])) { s with heap := h'', toks := tk + 1 } := by
      refine I.turnedNew (ch := [e, it]) (fun b ob hb q => ?_) hf (Nat.le_refl _) new
      have n1 : b ≠ e := fun z => hb (by simp [z])
      have n2 : b ≠ it := fun z => hb (by simp [z])
      exact (sb.2 b n1).trans (hk b ob n1 n2 q)
    refine ⟨.ref s.heap.objs.size, _, I1, rfl, ⟨_, v, rfl, I.hok.fresh (Nat.le_refl _), rfl, rr⟩, ⟨⟨x, ?_⟩, ?_⟩, fun b hb => ?_⟩
    · have e1 : ((i + 1 : Nat) : Int) = (i : Int) + 1 := by omega
      rw [e1]
      exact he'
    · exact keep (i + 1) h' h'' (next h' hs') fun o q => (sb.2 it (Ne.symm hei)).trans q
    · have hb' : b < s.heap.objs.size := by
        rcases List.mem_cons.mp hb with z | z
        · rw [z]; exact hel
        · rw [List.mem_singleton.mp z]; exact hit
      rw [upd_ne (Nat.ne_of_lt hb')]
      exact (hf b hb).1
  done := by
    intro X hP hw hK hc i pins s σ H E I hf st hg
    obtain ⟨n, fp, Pv, Sd, D, hef, sd, next, _, eq, rel⟩ := draws X hP hw hK hc i pins s σ H I st.2 (.inr hg)
    subst hP hw hK
    obtain ⟨⟨old, he⟩, hs⟩ := st
    obtain ⟨f0, f1, f2, f3, f4, f5⟩ := hf it (by simp)
    have en := eq hg
    subst en
    exact wpAny_pyNext_enum_endD D he sd fun h' eb => ⟨rfl, I.turned (t' := s.toks) (fun b o hb q => eb b o hb q) f0 f1 f3 f4 f5⟩
  self := fun A i s Q E st h => by
    obtain ⟨⟨_, he⟩, _⟩ := st
    exact wpAny_pyIter_enum he h
abbrev IteT (K : PySem.W.Frag) (a : Addr) : It := ItD (fun i H x => ∀ xs, SqT K H a xs → xs[i]? = some x) (fun i H => ∃ (xs : List V) (x : V), SqT K H a xs ∧ xs[i]? = some x) (fun i H => ∃ xs : List V, SqT K H a xs ∧ xs.length = i)
abbrev IteS (z : Str) : It := ItD (fun i _ x => ∃ c, z.cps[i]? = some c ∧ x = .str ⟨#[c]⟩) (fun i _ => i < z.cps.size) (fun i _ => i = z.cps.size)
def iEnumA (K : PySem.W.Frag) (ta : TA) : TI := fun σ H R => ta σ H fun vs H1 => (∃ a xs, vs = [.ref a] ∧ SqL K H1 a xs ∧ R (Ite K a) H1) ∨ (∃ a xs, vs = [.ref a] ∧ SqT K H1 a xs ∧ R (IteT K a) H1) ∨ ∃ z, vs = [.str z] ∧ R (IteS z) H1
theorem pi_enumA {X : Cx} {e : Expr} {ta : TA} {p pos tpos : Pos} {elts : List Expr} {kk : Nat} (hg : Gl X "enumerate") (hm : X.mg "enumerate" = none) (ha : PA X [e] ta) (hs : starEach [e] X.env = [(false, eval e X.env)] := by rfl) :
    PI X (.Tuple elts kk tpos) (.Call (.Name "enumerate" p) [e] [] pos) (iEnumA X.K ta) := by
  constructor
  intro pins s σ H R I h
  refine Call_ (ld_blt I hg hm boot_enumerate (PyProof.Rows.callWith_type1 ?_ hs rfl))
  refine thn (ha.run pos pins s σ H _ I h) ?_
  rintro us s1 ⟨vs, H1, I1, r1, q1⟩
  have two : ∀ b, b ∈ [s1.heap.objs.size + 1, s1.heap.objs.size] → FpOk X pins H1 b := fun b hb => by
    have hle : s1.heap.objs.size ≤ b := by
      rcases List.mem_cons.mp hb with z | z
      · omega
      · rw [List.mem_singleton.mp z]; exact Nat.le_refl _
    exact I1.fpOk hle (I1.hok.fresh hle)
  rcases q1 with ⟨a, xs, ex, hq, q⟩ | ⟨a, xs, ex, hq, q⟩ | ⟨z, ex, q⟩
  · subst ex
    obtain ⟨u, rfl, r⟩ := vals1 r1
    cases r
    obtain ⟨its, rv, p', hz⟩ := I1.list hq
    refine call_enumerate_list p'.isList ?_
    intro h' he hit hsz hk
    refine wpAny_pyIter_enum he ?_
    have I2 : Inv X pins σ H1 { s1 with heap := h' } := I1.kept (t' := s1.toks) hk
    exact ⟨s1.heap.objs.size + 1, [s1.heap.objs.size + 1, s1.heap.objs.size], _, _, H1, rfl, I2, turn_enum a (s1.heap.objs.size + 1) s1.heap.objs.size, ⟨⟨.none, he⟩, hit, Nat.succ_ne_self _⟩, two, q⟩
  · subst ex
    obtain ⟨u, rfl, r⟩ := vals1 r1
    cases r
    obtain ⟨its, rv, p', hz⟩ := I1.tuple hq
    refine enum1_begins (begins_tuple a its.toArray) p' ?_
    intro h' he hit hk
    refine wpAny_pyIter_enum he ?_
    have I2 : Inv X pins σ H1 { s1 with heap := h' } := I1.kept (t' := s1.toks) hk
    have hne : a ≠ s1.heap.objs.size := by
      obtain ⟨o, ho, _⟩ := p'
      exact Nat.ne_of_lt (Heap.lt_size ho)
    refine ⟨s1.heap.objs.size + 1, [s1.heap.objs.size + 1, s1.heap.objs.size], _, _, H1, rfl, I2, turn_D (St := fun i h => h.IsTupleIter s1.heap.objs.size a i) (Nat.succ_ne_self _) (fun i h h' st k => st.at fun o q => k o q)
      (fun i h st => by obtain ⟨o, q, _, d⟩ := st; exact ⟨o, q, fun v z => by rw [d] at z; cases z⟩) ?_, ⟨⟨.none, he⟩, ⟨_, hit, rfl, rfl⟩⟩, two, q⟩
    intro X' hP hw hK hc i pins' s' σ' H' I' st hms
    rw [← hP, ← hw]
    rw [← hK] at hms ⊢
    have tup : ∃ xs, SqT X'.K H' a xs := by
      rcases hms with ⟨xs, x, hx, _⟩ | ⟨xs, hx, _⟩ <;> exact ⟨xs, hx⟩
    obtain ⟨ys, hy⟩ := tup
    obtain ⟨its', rv', p2, _⟩ := I'.tuple hy
    have hl := rv'.length
    have hd1 : X'.A.in1.handled = none := I'.ok.hd hc
    refine ⟨its'.toArray.size, [s1.heap.objs.size, a], fun i v => its'.toArray[i]? = some v, fun i h => h.IsTupleIter s1.heap.objs.size a i ∧ h.IsTuple a its'.toArray, Draws.tuple hd1 _ a hne its'.toArray, ?_, ⟨st, p2⟩, fun h' sd => sd.1, ?_, ?_, ?_⟩
    · intro z
      rcases List.mem_cons.mp z with z | z
      · exact Nat.succ_ne_self _ z
      · have z' := List.mem_singleton.mp z
        obtain ⟨o, ho, _⟩ := p'
        have hlt := Heap.lt_size ho
        rw [← z'] at hlt
        exact Nat.not_succ_lt_self hlt
    · rintro ⟨xs, x, hx, hxi⟩
      have e1 := I'.tuple_inj hx hy
      subst e1
      have h1 := (List.getElem?_eq_some_iff.mp hxi).1
      rw [hl] at h1
      rw [List.size_toArray]
      exact h1
    · rintro ⟨xs, hx, hxi⟩
      have e1 := I'.tuple_inj hx hy
      subst e1
      rw [List.size_toArray, ← hl, hxi]
    · intro x hx
      have hx' : its'[i]? = some x := by simpa using hx
      have hi : i < its'.length := (List.getElem?_eq_some_iff.mp hx').1
      obtain ⟨v, hv⟩ : ∃ v, ys[i]? = some v := ⟨ys[i]'(by omega), List.getElem?_eq_getElem (by omega)⟩
      obtain ⟨u, hu, ru⟩ := rv'.get hv
      rw [hx'] at hu
      cases hu
      exact ⟨v, ru, fun xs hxs => by rw [I'.tuple_inj hxs hy]; exact hv⟩
  · subst ex
    obtain ⟨u, rfl, r⟩ := vals1 r1
    obtain ⟨t, rfl⟩ := r
    refine call_enumerate_str ?_
    intro h' he hit hsz hk
    refine wpAny_pyIter_enum he ?_
    have I2 : Inv X pins σ H1 { s1 with heap := h' } := I1.kept (t' := s1.toks) hk
    refine ⟨s1.heap.objs.size + 1, [s1.heap.objs.size + 1, s1.heap.objs.size], _, _, H1, rfl, I2, turn_D (St := fun i h => h.IsStrIter s1.heap.objs.size (strIterType z) z t i) (Nat.succ_ne_self _) (fun i h h' st k => by obtain ⟨o, q, r⟩ := st; exact ⟨o, k o q, r⟩)
      (fun i h st => by obtain ⟨o, q, _, d⟩ := st; exact ⟨o, q, fun v z => by rw [d] at z; cases z⟩) ?_, ⟨⟨.none, he⟩, hit⟩, two, q⟩
    intro X' hP hw hK hc i pins' s' σ' H' I' st hms
    rw [← hP, ← hw]
    have hd1 : X'.A.in1.handled = none := I'.ok.hd hc
    refine ⟨z.cps.size, [s1.heap.objs.size], fun i v => ∃ c u, z.cps[i]? = some c ∧ v = .str ⟨#[c]⟩ u, fun i h => h.IsStrIter s1.heap.objs.size (strIterType z) z t i, Draws.text hd1 _ z t, ?_, st, fun h' sd => sd, fun h => h, fun h => h, ?_⟩
    · intro q
      exact Nat.succ_ne_self _ (List.mem_singleton.mp q)
    · rintro x ⟨c, u, hc', rfl⟩
      exact ⟨.str ⟨#[c]⟩, ⟨u, rfl⟩, c, hc', rfl⟩
def enumL (xs : List PyData) : List SV := (List.range xs.length).zipWith (fun i x => SV.d (.tuple [.int (i : Nat), x])) xs
theorem enumL_get {xs : List PyData} {i : Nat} {x : SV} (h : (enumL xs)[i]? = some x) : ∃ d, xs[i]? = some d ∧ x = .d (.tuple [.int (i : Nat), d]) := by
  unfold enumL at h
  rw [List.getElem?_zipWith] at h
  cases e : xs[i]? with
  | none =>
    rw [e] at h
    split at h
    · rename_i q
      cases q
    · cases h
  | some d =>
    have hi : i < xs.length := (List.getElem?_eq_some_iff.mp e).1
    rw [e, List.getElem?_range hi] at h
    exact ⟨d, rfl, (Option.some.inj h).symm⟩
theorem enumL_length (xs : List PyData) : (enumL xs).length = xs.length := by simp [enumL]
def enumV : List SV → Store → Rs (List SV)
  | [.d (.list xs)], S => .ok (enumL xs) S
  | [.d (.tuple xs)], S => .ok (enumL xs) S
  | [.d (.str z)], S => .ok (enumL (z.cps.toList.map fun c => .str ⟨#[c]⟩)) S
  | _, _ => .bad
section
variable {M : Mo} {G : Gh} {H : Hp}
theorem itR_enumL {p : Addr} {ds : List PyData} {vs : List V} (f : G.F p) (hp : H p = some (.lst vs)) (r : RpAll M G.F H ds vs) : ItR M G H (enumL ds) (Ite M.K p) := fun S' G' H' B a => by
  have s1 : SqL M.K H' p vs := SqL.of (a.keeps.frozen p _ f hp)
  have r1 := a.rpAll r
  refine ⟨⟨vs, s1, by rw [enumL_length, r.length]; exact Nat.le_refl _⟩, fun i x hx => ?_⟩
  obtain ⟨d, hd, rfl⟩ := enumL_get hx
  obtain ⟨v, hv, rv⟩ := r1.get hd
  refine ⟨⟨vs, v, s1, hv⟩, fun u H2 y => ?_⟩
  obtain ⟨T, v', rfl, hT, rfl, k1⟩ := y
  have e1 := k1 vs s1
  rw [hv] at e1
  cases e1
  exact pair_step (G := G) (H := H) B hT (.int _) rv
theorem itR_enumT {p : Addr} {ds : List PyData} {vs : List V} (hp : SqT M.K H p vs) (r : RpAll M G.F H ds vs) : ItR M G H (enumL ds) (IteT M.K p) := fun S' G' H' B a => by
  have s1 : SqT M.K H' p vs := a.sqT hp
  have r1 := a.rpAll r
  refine ⟨⟨vs, s1, by rw [enumL_length, r.length]⟩, fun i x hx => ?_⟩
  obtain ⟨d, hd, rfl⟩ := enumL_get hx
  obtain ⟨v, hv, rv⟩ := r1.get hd
  refine ⟨⟨vs, v, s1, hv⟩, fun u H2 y => ?_⟩
  obtain ⟨T, v', rfl, hT, rfl, k1⟩ := y
  have e1 := k1 vs s1
  rw [hv] at e1
  cases e1
  exact pair_step (G := G) (H := H) B hT (.int _) rv
theorem itR_enumS {z : Str} : ItR M G H (enumL (z.cps.toList.map fun c => .str ⟨#[c]⟩)) (IteS z) := fun S' G' H' B a => by
  refine ⟨by show _ = z.cps.size; rw [enumL_length]; simp, fun i x hx => ?_⟩
  obtain ⟨d, hd, rfl⟩ := enumL_get hx
  rw [List.getElem?_map] at hd
  cases e : z.cps.toList[i]? with
  | none => rw [e] at hd; cases hd
  | some c =>
    rw [e] at hd
    have hd' : PyData.str ⟨#[c]⟩ = d := Option.some.inj hd
    subst hd'
    have hi : i < z.cps.size := by
      have := (List.getElem?_eq_some_iff.mp e).1
      simpa using this
    refine ⟨hi, fun u H2 y => ?_⟩
    obtain ⟨T, v', rfl, hT, rfl, c', hc, rfl⟩ := y
    have : c' = c := by
      rw [Array.getElem?_toList] at e
      rw [e] at hc
      exact (Option.some.inj hc).symm
    subst this
    exact pair_step (G := G) (H := H) B hT (.int _) (.str _)
end
theorem ci_enum {X : Cx} {W : WX} {O : Own} {e : Expr} {m : AM} {p pos tpos : Pos} {elts : List Expr} {kk : Nat} (hg : Gl X "enumerate") (hm : X.mg "enumerate" = none) (ha : CA X W O [e] m) (hs : starEach [e] X.env = [(false, eval e X.env)] := by rfl) :
    CI X W O (.Tuple elts kk tpos) (.Call (.Name "enumerate" p) [e] [] pos) (iA enumV m) :=
  piI (pi_enumA hg hm ha hs) fun σ H R ⟨fr, S, G, R0, h⟩ => ⟨fr, S, G, R0, h.split fun xs S1 us H1 G1 R1 st1 rs h1 => by
    unfold enumV at h1
    split at h1
    · obtain ⟨u, rfl, ru⟩ := rs.one
      cases ru with
      | lst f q r => exact .inl ⟨_, _, rfl, SqL.of q, h1.here R1 (itR_enumL f q r)⟩
    · obtain ⟨u, rfl, ru⟩ := rs.one
      cases ru with
      | tup q r => exact .inr (.inl ⟨_, _, rfl, q, h1.here R1 (itR_enumT q r)⟩)
    · obtain ⟨u, rfl, ru⟩ := rs.one
      cases ru
      exact .inr (.inr ⟨_, rfl, h1.here R1 itR_enumS⟩)
    · exact h1.not_bad.elim⟩
end PD
namespace PD
open PySem PySem.Spec PyProof.Rows L2
def strsOf : List PyData → Option (List Str)
  | [] => some []
  | .str x :: r => (strsOf r).map (x :: ·)
  | _ :: _ => none
theorem strs_rel {M : Mo} {F : Addr → Prop} {H : Hp} : ∀ {ds : List PyData} {vs : List V} {ys : List Str}, RpAll M F H ds vs → strsOf ds = some ys → vs = ys.map V.str
  | [], _, ys, .nil, e => by cases e; rfl
  | .str x :: r, _, ys, .cons q t, e => by
    cases h : strsOf r with
    | none => simp [strsOf, h] at e
    | some zs =>
      have e' : x :: zs = ys := by simpa [strsOf, h] using e
      subst e'
      cases q
      rw [strs_rel t h]
      rfl
  | .none :: _, _, _, _, e => by simp [strsOf] at e
  | .bool _ :: _, _, _, _, e => by simp [strsOf] at e
  | .int _ :: _, _, _, _, e => by simp [strsOf] at e
  | .list _ :: _, _, _, _, e => by simp [strsOf] at e
  | .tuple _ :: _, _, _, _, e => by simp [strsOf] at e
  | .dict _ :: _, _, _, _, e => by simp [strsOf] at e
def joinV : SV → SV → Store → Rs SV
  | .d (.str a), .d (.list ds), S => match strsOf ds with
    | some ys => if (ys.map (·.length)).sum + ys.length * a.length ≤ 16777216 then .ok (.d (.str (Txt.join a ys))) S else .bad
    | none => .bad
  | .d (.str a), .d (.tuple ds), S => match strsOf ds with
    | some ys => if (ys.map (·.length)).sum + ys.length * a.length ≤ 16777216 then .ok (.d (.str (Txt.join a ys))) S else .bad
    | none => .bad
  | _, _, _ => .bad
def eM1 (p : SV → SV → Store → Rs SV) (a b : EM) : EM := fun fr S => (a fr S).bind fun x S1 => match x with
  | .d (.str _) => (b fr S1).bind fun y S2 => p x y S2
  | _ => .bad
section
variable {X : Cx} {W : WX} {O : Own} {pos apos : Pos}
theorem ce_join {o e : Expr} {mo me : EM} (ho : CV X W O o mo) (he : CV X W O e me) (hs : starEach [e] X.env = [(false, eval e X.env)] := by rfl) (hbase : attributeBase o "join" X.env (eval o X.env) = eval o X.env := by rfl) (hline : (apos.endLine == pos.line) = true := by rfl) :
    CE X W O (.Call (.Attribute o "join" apos) [e] [] pos) (eM1 joinV mo me) :=
  peI (pe_join ho he hs hbase hline) fun σ H Q ⟨fr, S, G, R, h⟩ => ⟨fr, S, G, R, h.split fun x S1 u H1 G1 R1 st1 rx h1 => by
    split at h1
    · obtain rfl := rx.str
      refine ⟨⟨_, rfl⟩, fr, S1, G1, R1, h1.split fun y S2 v H2 G2 R2 st2 ry h2 => ?_⟩
      unfold joinV at h2
      split at h2
      · rename_i e1
        cases e1
        split at h2
        · rename_i hy
          split at h2
          · rename_i hz
            obtain ⟨_, _, rfl, q, r⟩ := ry.lst
            obtain rfl := strs_rel r hy
            exact ⟨_, _, _, rfl, rfl, .inl (SqL.of q), hz, h2.here R2 (.str _)⟩
          · exact h2.not_bad.elim
        · exact h2.not_bad.elim
      · rename_i e1
        cases e1
        split at h2
        · rename_i hy
          split at h2
          · rename_i hz
            obtain ⟨_, _, rfl, q, r⟩ := ry.tup
            obtain rfl := strs_rel r hy
            exact ⟨_, _, _, rfl, rfl, .inr q, hz, h2.here R2 (.str _)⟩
          · exact h2.not_bad.elim
        · exact h2.not_bad.elim
      · exact h2.not_bad.elim
    · exact h1.not_bad.elim⟩
def fmtV : SV → Store → Rs SV
  | .d (.str y), S => if y.length ≤ sizeLine then .ok (.d (.str y)) S else .bad
  | .d (.int i), S => if i.natAbs.log2 < 1920 then .ok (.d (.str (toString i))) S else .bad
  | _, _ => .bad
abbrev JM := Str → Fr → Store → Rs Str
def jN : JM := fun acc _ S => .ok acc S
def jC (m : EM) (r : JM) : JM := fun acc fr S => (m fr S).bind fun x S1 => match x with
  | .d (.str y) => if (acc ++ y).length ≤ sizeLine then r (acc ++ y) fr S1 else .bad
  | _ => .bad
def eJ (r : JM) : EM := fun fr S => (r Str.empty fr S).bind fun z S1 => .ok (.d (.str z)) S1
end
end PD
namespace PD
open PySem PySem.Spec PyProof.Rows L2
def onlyH (K : PySem.W.Frag) (a : Addr) (o : Obj) (ns : List Int) : Hp := fun b => if b = a ∧ (K.lookup a).isNone = true then some (.frz o (.lst (ns.map V.int))) else none
section
variable {K : PySem.W.Frag} {a b : Addr} {o : Obj} {ns : List Int}
theorem onlyH_some {u : HO} (h : onlyH K a o ns b = some u) : b = a ∧ K.lookup a = none ∧ u = .frz o (.lst (ns.map V.int)) := by
  unfold onlyH at h
  split at h
  · rename_i q
    exact ⟨q.1, by simpa using q.2, (Option.some.inj h).symm⟩
  · cases h
def G00 (H : Hp) : Gh := ⟨fun _ => False, [], H, fun _ => False, []⟩
theorem base00 {M : Mo} {H : Hp} : Base M H [] (G00 H) :=
  ⟨rfl, fun r o a h => by simp at h, List.nodup_nil, fun _ h => h.elim, fun _ _ h _ => h, fun _ h => h, fun _ h => h.elim, ⟨[], rfl⟩, fun _ h => by cases h⟩
end
theorem law_run {P : Program} {w : World} {K : PySem.W.Frag} {mg mb : Str → Option Value} {k : Nat} {fa a : Addr} {fd : FuncData} {x : Str} {FL : FN} {s1 : Shared} {vs : List Value} {ns : List Int}
    (kin : K.In s1.heap) (gl : s1.heap.Ns mainGlobals mg) (bu : s1.heap.Ns builtinsNs mb) (bb : ∀ x : Str, x ≠ "__name__" → mb x = bootBuiltins x) (sm : ∃ mm, s1.heap.Ns sysModules mm) (nl : s1.heap.NoLimit) (gn : s1.gens = #[])
    (at_ : s1.heap.get? a = some { cls := .type "list", data := .seq vs.toArray }) (are : IntsAre vs ns) (few : ns.length ≤ sizeLine) (room : Room k callerA)
    (Fn : ∀ base : Heap, K.In base → base.Ns mainGlobals mg → FnG P w K mg base k fa fd [x] (spOf ⟨w, K, mg⟩ 1 FL)) (bind : Binds K fd [x] [])
    (yes : ∃ S, FL [.scr ns] [] = .ok (.d (.bool true)) S) :
    codeAny (model P w) callerA (.call (.ref fa) ⟨[.ref a], []⟩) (fun r s2 => r = .ok (.ret (.bool true)) ∧ OldK s1.heap s2.heap ∧ s2.os = s1.os ∧ AllBare s2.gens) s1 := by
  have ri := vals_ints are
  obtain ⟨S, yes⟩ := yes
  let so : Obj := { cls := .type "list", data := .seq vs.toArray }
  let H : Hp := onlyH K a so ns
  have hH : ∀ {b u}, H b = some u → b = a ∧ K.lookup a = none ∧ u = .frz so (.lst (ns.map V.int)) := fun h => onlyH_some h
  have scr : FzL K (G00 H).F H a (ns.map V.int) := by
    cases q : K.lookup a with
    | none => exact .inr (.inl ⟨so, if_pos ⟨rfl, by rw [q]; rfl⟩⟩)
    | some o =>
      have z := kin a o q
      rw [at_] at z
      cases z
      refine .inr (.inr ⟨_, vs.toArray, _, q, rfl, rfl, rfl, ?_, by simpa using ri⟩)
      rw [List.size_toArray, are.length]
      exact few
  have ok : HOk P w H s1.heap := fun b u z => by
    obtain ⟨rfl, _, rfl⟩ := hH z
    refine ⟨at_, by rw [List.length_map]; exact few, vs, _, ri, at_⟩
  have free : ∀ {b : Addr} {o : Obj} {es : Array DictEntry} {ep : Nat}, s1.heap.get? b = some o → o.data = .dict es ep → H b = none := fun {b o es ep} e d => by
    cases q : H b with
    | none => rfl
    | some u =>
      obtain ⟨rfl, _, _⟩ := hH q
      rw [at_] at e
      cases e
      exact absurd (show Data.seq vs.toArray _ = Data.dict es ep from d) (fun z => by cases z)
  have ns_ : ∀ {b : Addr} {m : Str → Option Value}, s1.heap.Ns b m → (hidT s1.heap H).Ns b m := fun {b m} h => by
    obtain ⟨o, es, ep, e, d, r⟩ := h
    exact ⟨o, es, ep, hidT_get e (free e d), d, r⟩
  have kb : K.In (hidT s1.heap H) := fun b o e => by
    refine hidT_get (kin b o e) ?_
    cases q : H b with
    | none => rfl
    | some u =>
      obtain ⟨rfl, n, _⟩ := hH q
      rw [n] at e
      cases e
  obtain ⟨lim, l1, l2⟩ := nl
  have md : Mod K mg (hidT s1.heap H) := ⟨kb, ns_ gl, ⟨mb, ns_ bu, bb⟩, ⟨lim, ns_ l1, l2⟩⟩
  have nil_ : ∀ b : Addr, b ∉ ([] : List Addr) := fun b z => by cases z
  have e0 : Env0 P w K mg (hidT s1.heap H) callerA [] s1 H := ⟨rfl, md, fun b o e => of_hidT e, Nat.le_of_eq (hidT_size _ _), trivial, fun b hb => (nil_ b hb).elim, ok, .of_eq gn⟩
  have sp0 : spOf ⟨w, K, mg⟩ 1 FL [.ref a] H (fun v _ => v = .bl true) fun _ _ _ => False := by
    refine ⟨[], G00 H, [.scr ns], base00, .cons ⟨a, rfl, scr⟩ .nil, rfl, ?_, fun z S2 e u H2 G2 B2 en r => ?_, fun x S2 e => ?_⟩
    · rw [yes]
      exact fun z => by cases z
    · rw [yes] at e
      cases e
      cases r
      rfl
    · rw [yes] at e
      cases e
  refine codeAny_mono ((Fn _ kb (ns_ gl)).run callerA [] s1 H ⟨[.ref a], []⟩ [.ref a] [.ref a] _ _ room ⟨rfl, by obtain ⟨mm, q⟩ := sm; obtain ⟨o, es, ep, e, _⟩ := ns_ q; rw [e]; rfl⟩ e0 (bind s1 [.ref a] kin rfl) (.cons rfl .nil) sp0) fun r s2 h => ?_
  match r, h with
  | .error e, h =>
    obtain ⟨_, _, _, _, _, _, _, _, _, _, _, _, no⟩ := h
    exact no.elim
  | .ok .next, h => exact h.elim
  | .ok .brk, h => exact h.elim
  | .ok .cont, h => exact h.elim
  | .ok (.ret u), h =>
    obtain ⟨v, H2, os, bare, un, ok2, rv, q⟩ := h
    subst q
    cases rv
    refine ⟨rfl, OldK.of_keep fun b o e => ?_, os, bare⟩
    cases q : H b with
    | none => exact un.keep b o e q (nil_ b) (by simp)
    | some u =>
      obtain ⟨rfl, _, rfl⟩ := hH q
      obtain ⟨z1, _⟩ := ok _ _ q
      obtain ⟨z2, _⟩ := ok2 _ _ (un.frzs _ _ _ q)
      rw [e] at z1
      cases z1
      exact z2
theorem walk_to {l : PySem.W.OpenLaw} {n k : Nat} {q : Program} {loose : List Str} {XP : (Str → Option Value) → Heap → Prop} {YP : World → Heap → Prop} {d : DefRec} {K : Params → PySem.W.Frag} {FL : FN} {x : Str}
    (most : l.most = some n) (few : n ≤ sizeLine) (nod : d.params.defaults = []) (ino : importsNone q = true) (room : Room k callerA) (kin : ∀ (w : World) (h : Heap), YP w h → (K w.params).In h)
    (Fn : ∀ (w : World) (mg : Str → Option Value) (fa : Addr) (h : Heap), (K w.params).In h → h.Ns mainGlobals mg → mg d.name = some (.ref fa) →
      ∃ fd : FuncData, Binds (K w.params) fd [x] [] ∧ ∀ base : Heap, (K w.params).In base → base.Ns mainGlobals mg → FnG l.prog w (K w.params) mg base k fa fd [x] (spOf ⟨w, K w.params, mg⟩ 1 FL))
    (yes : ∀ ns : List Int, ns.length ≤ n → ∃ S, FL [.scr ns] [] = .ok (.d (.bool true)) S) : PySem.W.WalkO q loose XP YP l.row.toRowW d [] (fun f vs => PySem.call f vs) :=
  Att.attach_call most nod fun w s0 s1 mg mb fa o pm cd doc a vs ns G Y ho hd hcd hmg hobj hints hlen hg => by
    obtain ⟨fd, hb, hF⟩ := Fn w mg fa s1.heap (kin w _ Y) G.T.g hmg
    exact law_run (kin w _ Y) G.T.g G.T.b G.T.builtins ⟨_, (G.T.seer ino).mods.choose_spec.1⟩ G.T.nolimit hg hobj hints (Nat.le_trans hlen few) room hF hb (yes ns hlen)
end PD
namespace PD
open PySem PySem.Spec PyProof.Rows L2
def ltV : SV → SV → Store → Rs SV
  | .d (.int i), .d (.int j), S => .ok (.d (.bool (decide (i < j)))) S
  | .d (.str i), .d (.str j), S => .ok (.d (.bool (decide (i.cps.toList < j.cps.toList)))) S
  | _, _, _ => .bad
def gtV : SV → SV → Store → Rs SV
  | .d (.int i), .d (.int j), S => .ok (.d (.bool (decide (j < i)))) S
  | .d (.str i), .d (.str j), S => .ok (.d (.bool (decide (j.cps.toList < i.cps.toList)))) S
  | _, _, _ => .bad
def leV : SV → SV → Store → Rs SV
  | .d (.int i), .d (.int j), S => .ok (.d (.bool (decide (i ≤ j)))) S
  | .d (.str i), .d (.str j), S => .ok (.d (.bool (!decide (j.cps.toList < i.cps.toList)))) S
  | _, _, _ => .bad
def geV : SV → SV → Store → Rs SV
  | .d (.int i), .d (.int j), S => .ok (.d (.bool (decide (j ≤ i)))) S
  | .d (.str i), .d (.str j), S => .ok (.d (.bool (!decide (i.cps.toList < j.cps.toList)))) S
  | _, _, _ => .bad
def cmpR (f : Int → Int → Bool) (g : Str → Str → Bool) : R2 := fun x y H Q => (rI0 fun i j => .bl (f i j)) x y H Q ∨ ∃ i j, x = .str i ∧ y = .str j ∧ Q (.bl (g i j)) H
section
variable {X : Cx} {M : Mo}
theorem op_ltR : OpR X (compareOp .Lt) (cmpR (fun i j => decide (i < j)) fun i j => decide (i.cps.toList < j.cps.toList)) := op_lt.or op_lt_str
theorem op_gtR : OpR X (compareOp .Gt) (cmpR (fun i j => decide (j < i)) fun i j => decide (j.cps.toList < i.cps.toList)) := op_gt.or op_gt_str
theorem op_leR : OpR X (compareOp .LtE) (cmpR (fun i j => decide (i ≤ j)) fun i j => !decide (j.cps.toList < i.cps.toList)) := op_le.or op_le_str
theorem op_geR : OpR X (compareOp .GtE) (cmpR (fun i j => decide (j ≤ i)) fun i j => !decide (i.cps.toList < j.cps.toList)) := op_ge.or op_ge_str
theorem p_lt : P2 M (cmpR (fun i j => decide (i < j)) fun i j => decide (i.cps.toList < j.cps.toList)) ltV := by
  intro W O σ H fr S G x y u v Q R rx ry h
  unfold ltV at h
  split at h
  · obtain rfl := rx.int; obtain rfl := ry.int
    exact .inl ⟨_, _, rfl, rfl, h.here R (.bl _)⟩
  · obtain rfl := rx.str; obtain rfl := ry.str
    exact .inr ⟨_, _, rfl, rfl, h.here R (.bl _)⟩
  · exact h.not_bad.elim
theorem p_gt : P2 M (cmpR (fun i j => decide (j < i)) fun i j => decide (j.cps.toList < i.cps.toList)) gtV := by
  intro W O σ H fr S G x y u v Q R rx ry h
  unfold gtV at h
  split at h
  · obtain rfl := rx.int; obtain rfl := ry.int
    exact .inl ⟨_, _, rfl, rfl, h.here R (.bl _)⟩
  · obtain rfl := rx.str; obtain rfl := ry.str
    exact .inr ⟨_, _, rfl, rfl, h.here R (.bl _)⟩
  · exact h.not_bad.elim
theorem p_le : P2 M (cmpR (fun i j => decide (i ≤ j)) fun i j => !decide (j.cps.toList < i.cps.toList)) leV := by
  intro W O σ H fr S G x y u v Q R rx ry h
  unfold leV at h
  split at h
  · obtain rfl := rx.int; obtain rfl := ry.int
    exact .inl ⟨_, _, rfl, rfl, h.here R (.bl _)⟩
  · obtain rfl := rx.str; obtain rfl := ry.str
    exact .inr ⟨_, _, rfl, rfl, h.here R (.bl _)⟩
  · exact h.not_bad.elim
theorem p_ge : P2 M (cmpR (fun i j => decide (j ≤ i)) fun i j => !decide (i.cps.toList < j.cps.toList)) geV := by
  intro W O σ H fr S G x y u v Q R rx ry h
  unfold geV at h
  split at h
  · obtain rfl := rx.int; obtain rfl := ry.int
    exact .inl ⟨_, _, rfl, rfl, h.here R (.bl _)⟩
  · obtain rfl := rx.str; obtain rfl := ry.str
    exact .inr ⟨_, _, rfl, rfl, h.here R (.bl _)⟩
  · exact h.not_bad.elim
theorem lets_no : Lets X WF := fun _ _ ⟨_, _, _, _, _, _, _, _, _, _, _, _, _, _, _, _, z⟩ => z.elim
end
section
variable {X : Cx} {W : WX} {O : Own} {pos p q : Pos} {e e' : Expr} {m m' : EM}
theorem bt_len : bootBuiltins "len" = some (.builtin "len") := by decide +kernel
theorem bt_abs : bootBuiltins "abs" = some (.builtin "abs") := by decide +kernel
theorem bt_int : bootBuiltins "int" = some (.type "int") := by decide +kernel
theorem bt_tuple : bootBuiltins "tuple" = some (.type "tuple") := by decide +kernel
theorem bt_repr : bootBuiltins "repr" = some (.builtin "repr") := by decide +kernel
def eA1 (p : List SV → Store → Rs SV) (m : EM) : EM := eA p (aC m aN)
theorem ce_len (hm : X.mg "len" = none) (he : CV X W O e m) (hg : Gl X "len" := by rfl) (hs : starEach [e] X.env = (false, eval e X.env) :: starEach [] X.env := by rfl) : CE X W O (.Call (.Name "len" q) [e] [] pos) (eA1 lenV m) :=
  ce_callB call_len p_len hg hm bt_len (cav_cons he cav_nil hs) (he := hs)
theorem ce_abs (hm : X.mg "abs" = none) (he : CV X W O e m) (hg : Gl X "abs" := by rfl) (hs : starEach [e] X.env = (false, eval e X.env) :: starEach [] X.env := by rfl) : CE X W O (.Call (.Name "abs" q) [e] [] pos) (eA1 absI m) :=
  ce_callB call_abs p_abs hg hm bt_abs (cav_cons he cav_nil hs) (he := hs)
theorem ce_toint (hm : X.mg "int" = none) (he : CV X W O e m) (hg : Gl X "int" := by rfl) (hs : starEach [e] X.env = (false, eval e X.env) :: starEach [] X.env := by rfl) : CE X W O (.Call (.Name "int" q) [e] [] pos) (eA1 intV m) :=
  ce_callTy call_intR p_int hg hm bt_int (cav_cons he cav_nil hs) (he := hs)
theorem ce_totup (hm : X.mg "tuple" = none) (he : CV X W O e m) (hg : Gl X "tuple" := by rfl) (hs : starEach [e] X.env = (false, eval e X.env) :: starEach [] X.env := by rfl) : CE X W O (.Call (.Name "tuple" q) [e] [] pos) (eA1 tupleV m) :=
  ce_callTy call_tuple_of p_tuple hg hm bt_tuple (cav_cons he cav_nil hs) (he := hs)
end
end PD
namespace PD
open PySem PySem.Spec PyProof.Rows L2
inductive RpOs (M : Mo) (G : Gh) (H : Hp) : Hp → List Bool → List SV → List V → Prop
  | nil {H0 : Hp} : RpOs M G H H0 [] [] []
  | val {H0 H1 : Hp} {os : List Bool} {x : SV} {u : V} {xs : List SV} {us : List V} : RpS M G H x u → (∀ b, H1 b = none → H0 b = none) → RpOs M G H H1 os xs us → RpOs M G H H0 (false :: os) (x :: xs) (u :: us)
  | own {H0 H1 : Hp} {os : List Bool} {x : SV} {a : Addr} {xs : List SV} {us : List V} : Tmp M H0 a x G H → H1 a ≠ none → (∀ b, H1 b = none → H0 b = none) → RpOs M G H H1 os xs us → RpOs M G H H0 (true :: os) (x :: xs) (.ref a :: us)
def tAO (M : Mo) (W : WX) (O : Own) (os : List Bool) (m : AM) : TA := fun σ H Q => ∃ fr S G, Rel M O σ H fr S G ∧ Pst M W O σ H fr G (m fr S) (fun G' H' xs us => RpOs M G' H' H os xs us) Q
def CAO (X : Cx) (W : WX) (O : Own) (es : List Expr) (os : List Bool) (m : AM) : Prop := PA X es (tAO (.of X) W O os m)
def OldAt (O : Own) (σ : L2.St) (fr : Fr) (H0 : Hp) : Prop := ∀ j w a, O.has j → fr[j]? = some (some w) → σ[j]? = some (some (V.ref a)) → H0 a ≠ none
def setAll (fr : Fr) : List Nat → List SV → Fr
  | i :: is, x :: xs => setAll (fr.set i (some x)) is xs
  | _, _ => fr
def setAllV (σ : L2.St) : List Nat → List V → L2.St
  | i :: is, u :: us => setAllV (σ.set i (some u)) is us
  | _, _ => σ
def setAllO (O : Own) : List Nat → List Bool → Own
  | i :: is, o :: os => setAllO (O.set i o) is os
  | _, _ => O
theorem Rel.storeAll {M : Mo} {H : Hp} {S : Store} {G : Gh} : ∀ {is : List Nat} {os : List Bool} {xs : List SV} {us : List V} {H0 : Hp} {O : Own} {σ : L2.St} {fr : Fr},
    Rel M O σ H fr S G → OldAt O σ fr H0 → RpOs M G H H0 os xs us → is.length = os.length → (∀ i ∈ is, i < σ.length ∧ i < O.length) → (∀ a, H a ≠ none → G.H0 a ≠ none → H0 a ≠ none) → Rel M (setAllO O is os) (setAllV σ is us) H (setAll fr is xs) S G := by
  intro is
  induction is with
  | nil =>
    intro os xs us H0 O σ fr R old rs hl hi hh
    cases os with
    | nil => cases rs; exact R
    | cons o os => simp at hl
  | cons i is ih =>
    intro os xs us H0 O σ fr R old rs hl hi hh
    cases rs with
    | nil => simp at hl
    | @val _ H1 os x u xs us r up t =>
      have hb := hi i List.mem_cons_self
      refine ih (R.store (O := O) hb.1 r) (fun j w a oj e1 e2 => ?_) t (by simpa using hl) (fun k hk => by
        have := hi k (List.mem_cons_of_mem _ hk)
        simpa using this) fun a z1 z2 => ?_
      · by_cases e : i = j
        · subst e
          have oj' : (O.set i false)[i]? = some true := oj
          rw [List.getElem?_set_self hb.2] at oj'
          cases oj'
        · have oj' : (O.set i false)[j]? = some true := oj
          rw [List.getElem?_set_ne e] at oj' e1 e2
          exact fun z => old j w a oj' e1 e2 (up a z)
      · exact fun z => hh a z1 z2 (up a z)
    | @own _ H1 os x a xs us tm ha up t =>
      have hb := hi i List.mem_cons_self
      have n0 : G.H0 a = none := by
        cases q : G.H0 a with
        | none => rfl
        | some o =>
          obtain ⟨o', ho', _⟩ := Cont.there tm.cont
          exact absurd tm.new (hh a (by rw [ho']; simp) (by rw [q]; simp))
      refine ih (R.storeOwn (O := O) hb.1 hb.2 tm.nf tm.nr n0 tm.cont fun j w oj e1 e2 => old j w a oj e1 e2 tm.new) (fun j w b oj e1 e2 => ?_) t (by simpa using hl) (fun k hk => by
        have := hi k (List.mem_cons_of_mem _ hk)
        simpa using this) fun b z1 z2 => ?_
      · by_cases e : i = j
        · subst e
          rw [List.getElem?_set_self hb.1] at e2
          have : a = b := by simpa using e2
          subst this
          exact ha
        · have oj' : (O.set i true)[j]? = some true := oj
          rw [List.getElem?_set_ne e] at oj' e1 e2
          exact fun z => old j w b oj' e1 e2 (up b z)
      · exact fun z => hh b z1 z2 (up b z)
def sPar (is : List Nat) (n : Nat) (m : AM) : SM := fun fr S => (m fr S).toS fr fun xs S1 => if (is.all fun i => decide (i < fr.length) && decide (i < n)) = true then .nx (setAll fr is xs) S1 else .bad
section
variable {X : Cx} {W : WX} {L O : Own} {pos : Pos}
theorem cao_nil : CAO X W O [] [] aN := paI pa_nil fun σ H Q ⟨fr, S, G, R, h⟩ => h.here R .nil
theorem cao_val {e : Expr} {es : List Expr} {os : List Bool} {m : EM} {n : AM} (he : CE X W O e m) (hr : CAO X W O es os n) (hs : starEach (e :: es) X.env = (false, eval e X.env) :: starEach es X.env := by rfl) : CAO X W O (e :: es) (false :: os) (aC m n) :=
  paI (pa_cons he hr hs) fun σ H Q ⟨fr, S, G, R, h⟩ => ⟨fr, S, G, R, h.split fun x S1 u H1 G1 R1 st1 rx h1 => ⟨fr, S1, G1, R1, h1.split fun xs S2 us H2 G2 R2 st2 rs h2 =>
    h2.here R2 (.val (R1.base.rps st2 rx) (fun b z => st1.there b z) rs)⟩⟩
theorem cao_own {e : Expr} {es : List Expr} {os : List Bool} {m : EM} {n : AM} (he : CN X W O e m) (hr : CAO X W O es os n) (hs : starEach (e :: es) X.env = (false, eval e X.env) :: starEach es X.env := by rfl) : CAO X W O (e :: es) (true :: os) (aC m n) :=
  paI (pa_cons he hr hs) fun σ H Q ⟨fr, S, G, R, h⟩ => ⟨fr, S, G, R, h.split fun x S1 u H1 G1 R1 st1 ⟨a, eu, tm⟩ h1 => ⟨fr, S1, G1, R1, h1.split fun xs S2 us H2 G2 R2 st2 rs h2 => by
    subst eu
    obtain ⟨o, ho, _⟩ := Cont.there tm.cont
    exact h2.here R2 (.own (tm.step R1.base st2) (by rw [ho]; simp) (fun b z => st1.there b z) rs)⟩⟩
theorem RpOs.len {M : Mo} {G : Gh} {H H0 : Hp} {os : List Bool} {xs : List SV} {us : List V} (r : RpOs M G H H0 os xs us) : xs.length = us.length ∧ os.length = us.length := by
  induction r with
  | nil => exact ⟨rfl, rfl⟩
  | val _ _ _ ih => simp [ih.1, ih.2]
  | own _ _ _ _ ih => simp [ih.1, ih.2]
theorem par_read {M : Mo} {O' : Own} {is : List Nat} {os : List Bool} {m : AM} {σ : L2.St} {H : Hp} {D : Ends} {fr : Fr} {S : Store} {G : Gh} (hl : is.length = os.length) (R : Rel M O σ H fr S G) (h : SPst M W L (setAllO O is os) H G (sPar is O.length m fr S) D) :
    tAO M W O os m σ H fun us H1 => us.length = is.length ∧ D.nx (setAllV σ is us) H1 := by
  refine ⟨fr, S, G, R, h.expr R fun xs S1 us H1 G1 R1 st1 a1 rs h1 => ?_⟩
  split at h1
  · rename_i hz
    rw [List.all_eq_true] at hz
    have hi : ∀ i ∈ is, i < σ.length ∧ i < O.length := fun i m => by
      have q := hz i m
      rw [Bool.and_eq_true, decide_eq_true_eq, decide_eq_true_eq, R.len] at q
      exact q
    have old : OldAt O σ fr H := fun j w a oj e1 e2 => R.own_there oj e1 e2
    refine ⟨by rw [hl, rs.len.2], h1.nx _ S1 rfl _ H1 G1 (R1.storeAll old rs hl hi fun a _ z => ?_) Adv.refl⟩
    rw [st1.h0] at z
    exact fun q => z (R.base.new0 q).1
  · exact (h1.good rfl).elim
theorem cs_par2 (i j : Nat) {x y : Str} {a b : Expr} {os : List Bool} {m : AM} {px py pt : Pos} {kt k2 : Nat} {pt2 : Pos} (hc : X.calm = true) (hN : X.N.Nodup) (ha : CAO X W O [a, b] os m) (hos : os.length = 2 := by rfl) (hi : X.N[i]? = some x := by rfl) (hj : X.N[j]? = some y := by rfl) (hij : i ≠ j := by decide)
    (hx : X.env.scope.names.lookup x = some .local := by rfl) (hy : X.env.scope.names.lookup y = some .local := by rfl)
    (hw : swappedStores [.Tuple [.Name x px, .Name y py] kt pt] (.Tuple [a, b] k2 pt2) X.env = pure (some [x, y]) := by rfl)
    (hs : swapsWithSole [.Tuple [.Name x px, .Name y py] kt pt] (.Tuple [a, b] k2 pt2) pos.line X.env = pure false := by rfl) :
    CS X W L O (.Assign [.Tuple [.Name x px, .Name y py] kt pt] (.Tuple [a, b] k2 pt2) pos) (sPar [i, j] O.length m) (setAllO O [i, j] os) :=
  psI (ps_par hc hN hi hj hij hx hy ha hw hs) fun D σ H ⟨fr, S, G, R, h⟩ => by
    obtain ⟨fr', S', G', R', g⟩ := par_read (O' := O) (by rw [hos]; rfl) R h
    refine ⟨fr', S', G', R', g.good, fun z S1 e u H1 G1 R1 st r => ?_, g.exc⟩
    obtain ⟨h1, h2⟩ := g.ok z S1 e u H1 G1 R1 st r
    match u, h1 with
    | [v, w], _ => exact ⟨v, w, rfl, h2⟩
theorem cs_par3 (i j l : Nat) {x y z : Str} {a b c : Expr} {os : List Bool} {m : AM} {px py pz pt : Pos} {kt k2 : Nat} {pt2 : Pos} (hc : X.calm = true) (hN : X.N.Nodup) (ha : CAO X W O [a, b, c] os m) (hos : os.length = 3 := by rfl) (hi : X.N[i]? = some x := by rfl) (hj : X.N[j]? = some y := by rfl) (hl : X.N[l]? = some z := by rfl)
    (hij : i ≠ j := by decide) (hil : i ≠ l := by decide) (hjl : j ≠ l := by decide)
    (hx : X.env.scope.names.lookup x = some .local := by rfl) (hy : X.env.scope.names.lookup y = some .local := by rfl) (hz : X.env.scope.names.lookup z = some .local := by rfl)
    (hw : swappedStores [.Tuple [.Name x px, .Name y py, .Name z pz] kt pt] (.Tuple [a, b, c] k2 pt2) X.env = pure (some [x, y, z]) := by rfl)
    (hs : swapsWithSole [.Tuple [.Name x px, .Name y py, .Name z pz] kt pt] (.Tuple [a, b, c] k2 pt2) pos.line X.env = pure false := by rfl) :
    CS X W L O (.Assign [.Tuple [.Name x px, .Name y py, .Name z pz] kt pt] (.Tuple [a, b, c] k2 pt2) pos) (sPar [i, j, l] O.length m) (setAllO O [i, j, l] os) :=
  psI (ps_par3 hc hN hi hj hl hij hil hjl hx hy hz ha hw hs) fun D σ H ⟨fr, S, G, R, h⟩ => by
    obtain ⟨fr', S', G', R', g⟩ := par_read (O' := O) (by rw [hos]; rfl) R h
    refine ⟨fr', S', G', R', g.good, fun z S1 e u H1 G1 R1 st r => ?_, g.exc⟩
    obtain ⟨h1, h2⟩ := g.ok z S1 e u H1 G1 R1 st r
    match u, h1 with
    | [v, w, t], _ => exact ⟨v, w, t, rfl, h2⟩
end
end PD
namespace PD
open PySem PySem.Spec PyProof.Rows L2
theorem bt_dict : bootBuiltins "dict" = some (.type "dict") := by decide +kernel
theorem bt_sum : bootBuiltins "sum" = some (.builtin "sum") := by decide +kernel
def isaV (p : PyData → Bool) : SV → Store → Rs SV
  | .d x, S => .ok (.d (.bool (p x))) S
  | _, _ => .bad
def intsOf : List PyData → Option (List Int)
  | [] => some []
  | .int x :: r => (intsOf r).map (x :: ·)
  | _ :: _ => none
theorem ints_rel {M : Mo} {F : Addr → Prop} {H : Hp} : ∀ {ds : List PyData} {vs : List V} {ys : List Int}, RpAll M F H ds vs → intsOf ds = some ys → vs = ys.map V.int
  | [], _, ys, .nil, e => by cases e; rfl
  | .int x :: r, _, ys, .cons q t, e => by
    cases h : intsOf r with
    | none => simp [intsOf, h] at e
    | some zs =>
      have e' : x :: zs = ys := by simpa [intsOf, h] using e
      subst e'
      cases q
      rw [ints_rel t h]
      rfl
  | .none :: _, _, _, _, e => by simp [intsOf] at e
  | .bool _ :: _, _, _, _, e => by simp [intsOf] at e
  | .str _ :: _, _, _, _, e => by simp [intsOf] at e
  | .list _ :: _, _, _, _, e => by simp [intsOf] at e
  | .tuple _ :: _, _, _, _, e => by simp [intsOf] at e
  | .dict _ :: _, _, _, _, e => by simp [intsOf] at e
def sumV : List SV → Store → Rs SV
  | [.d (.list ds)], S => match intsOf ds with
    | some ns => .ok (.d (.int ns.sum)) S
    | none => .bad
  | [.d (.tuple ds)], S => match intsOf ds with
    | some ns => .ok (.d (.int ns.sum)) S
    | none => .bad
  | _, _ => .bad
theorem p_sum {M : Mo} : PN M (rSumT M.K) sumV := by
  intro W O σ H fr S G xs us Q R rs h
  unfold sumV at h
  split at h
  · split at h
    · rename_i hn
      obtain ⟨u, rfl, ru⟩ := rs.one
      obtain ⟨a, vs, rfl, q, r⟩ := ru.lst
      obtain rfl := ints_rel r hn
      exact ⟨_, _, rfl, (.inl (SqL.of q)), h.here R (.int _)⟩
    · exact h.not_bad.elim
  · split at h
    · rename_i hn
      obtain ⟨u, rfl, ru⟩ := rs.one
      obtain ⟨a, vs, rfl, q, r⟩ := ru.tup
      obtain rfl := ints_rel r hn
      exact ⟨_, _, rfl, (.inr q), h.here R (.int _)⟩
    · exact h.not_bad.elim
  · exact h.not_bad.elim
section
variable {X : Cx} {W : WX} {L O : Own} {pos p q : Pos} {e e' : Expr} {m m' : EM}
theorem ce_sum (hc : X.calm = true) (hm : X.mg "sum" = none) (he : CV X W O e m) (hg : Gl X "sum" := by rfl) (hs : starEach [e] X.env = (false, eval e X.env) :: starEach [] X.env := by rfl) : CE X W O (.Call (.Name "sum" q) [e] [] pos) (eA1 sumV m) :=
  ce_callB (cr_sumT hc) p_sum hg hm bt_sum (cav_cons he cav_nil hs) (he := hs)
end
end PD
namespace PD
open PySem PySem.Spec PyProof.Rows L2
section
variable {M : Mo} {W : WX} {O : Own} {σ : L2.St} {H H1 : Hp} {fr : Fr} {S1 : Store} {G G1 : Gh} {Q : VK}
theorem tmp_fin (R1 : Rel M O σ H1 fr S1 G1) (st1 : Stp G H G1 H1) {p : Addr} (hp : H1 p = none) {ds : List PyData} {us : List V} (r : RpAll M G1.F H1 ds us)
    (h : Pst M W O σ H1 fr G1 (.ok (.d (.list ds)) S1) (fun G' H' v u => ∃ a, u = V.ref a ∧ Tmp M H a v G' H') Q) : Q (.ref p) (upd H1 p (.lst us)) := by
  obtain ⟨B, st⟩ := R1.base.newT (o := .lst us) hp
  obtain ⟨_, nr, nf⟩ := R1.base.new0 hp
  exact h.ok _ _ rfl _ _ G1 (R1.step st B) st ⟨p, rfl, st1.there p hp, nf, nr, .inl ⟨ds, us, rfl, upd_same, RpAll.keep (R1.base.keeps st) r⟩⟩
end
def repL : SV → SV → Store → Rs SV
  | .d (.list xs), .d (.int k), S => if (decide (-(2 ^ 63) ≤ k) && decide (k < 2 ^ 63) && decide (xs.length * k.toNat ≤ sizeLine)) = true then .ok (.d (.list (List.replicate k.toNat xs).flatten)) S else .bad
  | _, _, _ => .bad
theorem RpAll.rev {M : Mo} {F : Addr → Prop} {H : Hp} : ∀ {ds : List PyData} {vs : List V}, RpAll M F H ds vs → RpAll M F H ds.reverse vs.reverse
  | _, _, .nil => .nil
  | _, _, .cons r t => by
    rw [List.reverse_cons, List.reverse_cons]
    exact (RpAll.rev t).append (.cons r .nil)
section
variable {X : Cx} {W : WX} {O : Own} {pos : Pos}
theorem cn_rep {a b : Expr} {ma mb : EM} (ha : CV X W O a ma) (hb : CV X W O b mb) : CN X W O (.BinOp a .Mult b pos) (e2 repL ma mb) :=
  peI (pe_op op_rep ha hb) fun σ H Q ⟨fr, S, G, R, h⟩ => ⟨fr, S, G, R, h.split fun x S1 u H1 G1 R1 st1 rx h1 => ⟨fr, S1, G1, R1, h1.split fun y S2 v H2 G2 R2 st2 ry h2 => by
    have rx2 := rx.step R1.base st2
    unfold repL at h2
    split at h2
    · obtain rfl := ry.int
      obtain ⟨_, _, rfl, q1, r1⟩ := rx2.lst
      split at h2
      · rename_i hz
        simp only [Bool.and_eq_true, decide_eq_true_eq] at hz
        have hz' := hz.2
        rw [r1.length] at hz'
        exact ⟨_, _, _, rfl, rfl, q1, hz.1.1, hz.1.2, hz', fun p hp => tmp_fin R2 (st1.trans st2) hp (r1.replicate _) ⟨h2.good, h2.ok, h2.exc⟩⟩
      · exact h2.not_bad.elim
    · exact h2.not_bad.elim⟩⟩
end
end PD
namespace PD
open PySem PySem.Spec PyProof.Rows L2
section
variable {X : Cx} {W : WX} {O : Own} {pos : Pos}
theorem Pst.splitE {M : Mo} {σ : L2.St} {H : Hp} {fr : Fr} {G : Gh} {α α' β β' : Type} {r : Rs α} {f : α → Store → Rs β} {relA : Gh → Hp → α → α' → Prop} {relB : Gh → Hp → β → β' → Prop} {QB : β' → Hp → Prop} {QA : α' → Hp → Prop}
    (h : Pst M W O σ H fr G (r.bind f) relB QB)
    (next : ∀ (z : α) (S1 : Store) (u : α') (H1 : Hp) (G1 : Gh), r = .ok z S1 → Rel M O σ H1 fr S1 G1 → Stp G H G1 H1 → relA G1 H1 z u → Pst M W O σ H1 fr G1 (f z S1) relB QB → QA u H1) : Pst M W O σ H fr G r relA QA := by
  refine ⟨fun e => h.good (by rw [e]; rfl), fun z S1 e u H1 G1 R1 st1 q => ?_, fun x S1 e H1 G1 cls d R1 st1 q => h.exc x S1 (by rw [e]; rfl) H1 G1 cls d R1 st1 q⟩
  have hb : r.bind f = f z S1 := by rw [e]; rfl
  rw [hb] at h
  exact next z S1 u H1 G1 e R1 st1 q ⟨h.good, fun z2 S2 e2 u2 H2 G2 R2 st2 q2 => h.ok z2 S2 e2 u2 H2 G2 R2 (st1.trans st2) q2, fun x S2 e2 H2 G2 cls d R2 st2 q2 => h.exc x S2 e2 H2 G2 cls d R2 (st1.trans st2) q2⟩
theorem cn_dict0 : CN X W O (.Dict [] [] pos) (eC (.dict [])) :=
  peI pe_dnewK fun σ H Q ⟨fr, S, G, R, h⟩ p hp => by
    obtain ⟨B, st⟩ := R.base.newT (o := .dK []) hp
    obtain ⟨_, nr, nf⟩ := R.base.new0 hp
    exact h.ok _ _ rfl _ _ G (R.step st B) st ⟨p, rfl, hp, nf, nr, .inr (.inl ⟨[], [], rfl, upd_same, .nil, .nil⟩)⟩
end
section
variable {X : Cx} {pins : List (Addr × Obj)} {σ : L2.St} {H : Hp} {s : Shared} {F : Addr → Prop}
mutual
theorem Rp.readsS (I : Inv X pins σ H s) (sm : (X.base.get? sysModules).isSome = true) : ∀ {d : PyData} {v : V} {u : Value}, Rp (.of X) F H d v → RelV v u → ∃ as, Reads s.heap u d as ∧ sysModules ∉ as
  | _, _, _, .non, r => by cases r; exact ⟨_, .none, by simp⟩
  | _, _, _, .bl b, r => by cases r; exact ⟨_, .bool b, by simp⟩
  | _, _, _, .int i, r => by obtain ⟨t, rfl⟩ := r; exact ⟨_, .int i t, by simp⟩
  | _, _, _, .str x, r => by obtain ⟨t, rfl⟩ := r; exact ⟨_, .str x t, by simp⟩
  | _, _, _, .lst f h q, r => by
    cases r
    obtain ⟨z, its, n, rv, e⟩ := I.hok _ _ h
    obtain ⟨as, ra, na⟩ := RpAll.readsS I sm q rv
    refine ⟨_, .list e rfl rfl (by simpa using ra), ?_⟩
    rw [List.mem_cons, not_or]
    refine ⟨fun z => ?_, na⟩
    obtain ⟨o, ho⟩ := Option.isSome_iff_exists.mp sm
    have := (I.bs _ _ ho).2
    rw [z, h] at this
    cases this
  | _, _, _, .tup h q, r => by
    cases r
    obtain ⟨its, rv, ⟨o, e, hc, n, hd⟩, z⟩ := I.tuple h
    obtain ⟨as, ra, na⟩ := RpAll.readsS I sm q rv
    exact ⟨_, .tuple e hc hd (by simpa using ra), na⟩
  | _, _, _, .dK f h q1 q2, r => by
    cases r
    obtain ⟨z, y, vs, rv, o, es, ep, e, hx, hd, ko, hp, nd⟩ := I.hok _ _ h
    obtain ⟨v1, v2⟩ := dK_entries (fun _ _ hk => keyIs_rel hk) hp rv
    obtain ⟨as, ra, na⟩ := RpAll.readsS I sm q1 v1
    obtain ⟨bs, rb, nb⟩ := RpAll.readsS I sm q2 v2
    refine ⟨_, .dict e hx.1 hd ra rb, ?_⟩
    rw [List.mem_append, List.mem_cons, not_or, not_or]
    exact ⟨⟨fun z => (beq_eq_false_iff_ne.mp y) z.symm, na⟩, nb⟩
  | _, _, _, .dN f h _ q1 q2, r => by
    cases r
    obtain ⟨⟨ds, ep, e, hx, hd, hp, _, ne⟩, _⟩ := I.hok _ _ h
    obtain ⟨v1, v2⟩ := dN_entries hp
    obtain ⟨as, ra, na⟩ := RpAll.readsS I sm q1 v1
    obtain ⟨bs, rb, nb⟩ := RpAll.readsS I sm q2 v2
    refine ⟨_, .dict e hx.1 hd ra rb, ?_⟩
    rw [List.mem_append, List.mem_cons, not_or, not_or]
    exact ⟨⟨ne, na⟩, nb⟩
theorem RpAll.readsS (I : Inv X pins σ H s) (sm : (X.base.get? sysModules).isSome = true) : ∀ {ds : List PyData} {vs : List V} {us : List Value}, RpAll (.of X) F H ds vs → Vals vs us → ∃ as, ReadsAll s.heap us ds as ∧ sysModules ∉ as
  | _, _, _, .nil, .nil => ⟨_, .nil, by simp⟩
  | _, _, _, .cons r t, .cons q w => by
    obtain ⟨as, ra, na⟩ := Rp.readsS I sm r q
    obtain ⟨bs, rb, nb⟩ := RpAll.readsS I sm t w
    exact ⟨_, .cons ra rb, by rw [List.mem_append, not_or]; exact ⟨na, nb⟩⟩
end
end
def reprOkD (d : PyData) : Bool := d.showable && decide (d.depth ≤ 180) && decide (d.shown.length ≤ sizeLine)
def reprVD : List SV → Store → Rs SV
  | [.d d], S => if reprOkD d = true then .ok (.d (.str d.shown)) S else .bad
  | _, _ => .bad
def reprRD (X : Cx) : List V → Hp → VK → Prop := fun xs H Q => ∃ F d x, xs = [x] ∧ Rp (.of X) F H d x ∧ reprOkD d = true ∧ Q (.str d.shown) H
theorem call_reprRD {X : Cx} {k : Nat} (hr : Room k X.A) (hgd : Gd X.base X.A) : CallR X (.builtin "repr") (reprRD X) := by
  intro pins s σ H xs us Q I r h
  obtain ⟨F, d, x, rfl, hd, ok, q⟩ := h
  obtain ⟨u, rfl, ru⟩ := vals1 r
  simp only [reprOkD, Bool.and_eq_true, decide_eq_true_eq] at ok
  obtain ⟨⟨sh, dp⟩, sz⟩ := ok
  obtain ⟨as, rd, nas⟩ : ∃ as, Reads s.heap u d as ∧ (d.hasDict = true → sysModules ∉ as) := by
    obtain ⟨as, rd, na⟩ := hd.readsS I hgd.2 ru
    exact ⟨as, rd, fun _ => na⟩
  have viaRef : ∀ a, u = .ref a → wpAny (model X.prog X.w) X.A (call (.builtin "repr") [u]) (EP X pins σ Q) X.xe s := fun a e => by
    subst e
    exact repr_of_reads' rd sh nas hgd.1 (room190 hr (by omega)) (fun _ _ e => e) (fun h' t tk hk => ⟨.str _, H, I.kept hk, ⟨_, rfl⟩, q⟩) sz
  cases rd with
  | none => exact PySem.P.repr_of_none ⟨.str _, H, I.tok _, ⟨_, rfl⟩, q⟩
  | bool b => exact PySem.P.repr_of_bool ⟨.str _, H, I.tok _, ⟨_, rfl⟩, by cases b <;> exact q⟩
  | int i t => exact PySem.P.repr_of_int (by simpa [PyData.showable] using sh) ⟨.str _, H, I.tok _, ⟨_, rfl⟩, q⟩
  | str x t => exact PySem.P.repr_of_str ⟨.str _, H, I.tok _, ⟨_, rfl⟩, q⟩ sz
  | list _ _ _ _ => exact viaRef _ rfl
  | tuple _ _ _ _ => exact viaRef _ rfl
  | dict _ _ _ _ _ => exact viaRef _ rfl
theorem p_reprD {X : Cx} : PN (.of X) (reprRD X) reprVD := by
  intro W O σ H fr S G xs us Q R rs h
  unfold reprVD at h
  split at h
  · split at h
    · rename_i hz
      obtain ⟨u, rfl, ru⟩ := rs.one
      obtain ⟨_, ru⟩ := ru.any
      exact ⟨_, _, _, rfl, ru, hz, h.here R (.str _)⟩
    · exact h.not_bad.elim
  · exact h.not_bad.elim
theorem ce_reprD {X : Cx} {W : WX} {O : Own} {pos q : Pos} {e : Expr} {m : EM} {k : Nat} (hr : Room k X.A) (hgd : Gd X.base X.A) (hm : X.mg "repr" = none) (he : CV X W O e m) (hg : Gl X "repr" := by rfl) (hs : starEach [e] X.env = (false, eval e X.env) :: starEach [] X.env := by rfl) : CE X W O (.Call (.Name "repr" q) [e] [] pos) (eA1 reprVD m) :=
  ce_callB (call_reprRD hr hgd) p_reprD hg hm bt_repr (cav_cons he cav_nil hs) (he := hs)
end PD
namespace PD
open PySem PySem.Spec PyProof.Rows L2
def MaskB (m : Nat) : Prop := m = 7 ∨ m = 31 ∨ m = 127 ∨ m = 511 ∨ m = 2047
end PD
namespace PD
open PySem PySem.Spec PyProof.Rows L2
theorem wayB_le (m : Nat) (h : Int) (k : Nat) : way m h k ≤ m := by
  have b : SetTable.bits h % (m + 1) < m + 1 := Nat.mod_lt _ (by omega)
  have e := runEnd_bd (Nat.le_of_lt_succ b)
  have s : (runAt m (SetTable.bits h % (m + 1)) (SetTable.bits h)).j + (runAt m (SetTable.bits h % (m + 1)) (SetTable.bits h)).more ≤ m := by
    simp only [runAt]
    omega
  have n := nth_in k _ s
  exact Nat.le_trans (Nat.le_add_right _ _) n
structure TabB (t : SetTable) (hs : List Int) : Prop where
  ris : Ris t.place.toList
  dm : t.dummies = #[]
  sz : t.place.size = hs.length
  mok : MaskB t.mask
  bd : ∀ x ∈ t.place.toList, x ≤ t.mask
  reach : ∀ (i : Nat) (h : Int) (j : Nat), hs[i]? = some h → t.place.toList[i]? = some j → ∃ k, way t.mask h k = j ∧ ∀ k', k' < k → way t.mask h k' ∈ t.place.toList
section
variable {t : SetTable} {hs : List Int}
theorem TabB.put (T : TabB t hs) {h : Int} {K : Nat} (hK : way t.mask h K ∉ t.place.toList) (hb : ∀ k, k < K → way t.mask h k ∈ t.place.toList) :
    (t.put (way t.mask h K)).2 = SetTable.below t.place (way t.mask h K) ∧ SetTable.below t.place (way t.mask h K) ≤ hs.length ∧
    TabB (t.put (way t.mask h K)).1 (hs.take (SetTable.below t.place (way t.mask h K)) ++ h :: hs.drop (SetTable.below t.place (way t.mask h K))) ∧
    (t.put (way t.mask h K)).1.mask = t.mask ∧ (t.put (way t.mask h K)).1.led = t.led ∧ (t.put (way t.mask h K)).1.plain = t.plain ∧ (t.put (way t.mask h K)).1.moves = t.moves ∧ (t.put (way t.mask h K)).1.finger = t.finger ∧
    (t.put (way t.mask h K)).1.fill = hs.length + 1 := by
  have inb := wayB_le t.mask h K
  have eK : way t.mask h K = way t.mask h K := rfl
  generalize hw : way t.mask h K = w at hK inb eK ⊢
  obtain ⟨p1, _, _⟩ := below_cut T.ris w
  have q1 : SetTable.below t.place w ≤ t.place.toList.length := by rw [Array.length_toList]; exact p1
  have q2 : SetTable.below t.place w ≤ hs.length := by have := T.sz; omega
  have pp := put_place t w
  have grow : ∀ x, x ∈ t.place.toList → x ∈ (t.put w).1.place.toList := fun x hx => by rw [pp]; exact mem_ins.mpr (.inr hx)
  have size : (t.put w).1.place.size = hs.length + 1 := by
    have := congrArg List.length pp
    rw [len_ins _ q1, Array.length_toList, Array.length_toList, T.sz] at this
    exact this
  refine ⟨rfl, q2, ?_, rfl, rfl, rfl, rfl, rfl, ?_⟩
  · constructor
    · exact ris_insert T.ris fun e => hK (List.mem_of_getElem? (by rw [Array.getElem?_toList]; exact e))
    · exact put_dm T.dm w
    · rw [size, len_ins _ q2]
    · exact T.mok
    · intro x hx
      rw [pp] at hx
      rcases mem_ins.mp hx with e | e
      · rw [e]; exact inb
      · exact T.bd x e
    · intro i h' j hi hj
      rw [tins_get hs q2] at hi
      rw [pp, tins_get _ q1] at hj
      have old : ∀ n, hs[n]? = some h' → t.place.toList[n]? = some j → ∃ k, way t.mask h' k = j ∧ ∀ k', k' < k → way t.mask h' k' ∈ (t.put w).1.place.toList := fun n a b => by
        obtain ⟨k, e, all⟩ := T.reach n h' j a b
        exact ⟨k, e, fun k' hk' => grow _ (all k' hk')⟩
      by_cases c : i < SetTable.below t.place w
      · rw [if_pos c] at hi hj
        exact old i hi hj
      rw [if_neg c] at hi hj
      by_cases d : i = SetTable.below t.place w
      · rw [if_pos d] at hi hj
        cases hi
        cases hj
        exact ⟨K, hw, fun k' hk' => grow _ (hb k' hk')⟩
      · rw [if_neg d] at hi hj
        exact old (i - 1) hi hj
  · show (t.put w).1.place.size + (t.put w).1.dummies.size = _
    rw [size, put_dm T.dm w]
    rfl
end
end PD
namespace PD
open PySem PySem.Spec PyProof.Rows L2
def KeyOf (h : Heap) (k : NestedKey) (a : Addr) : Prop := NestedIs h k (.ref a) ∧ k.depth ≤ 8
theorem KeyOf.one {h : Heap} {k k' : NestedKey} {a : Addr} (x : KeyOf h k a) (y : KeyOf h k' a) : k = k' := NestedIs.inj _ _ _ x.1 y.1
theorem KeyOf.on {h h' : Heap} {k : NestedKey} {a : Addr} (x : KeyOf h k a) (q : ∀ b o, h.get? b = some o → h'.get? b = some o) : KeyOf h' k a := ⟨NestedIs.at (fun b o _ _ e _ => q b o e) _ _ x.1, x.2⟩
abbrev KRow := Addr × NestedKey
def rowsK (w : World) (L : List KRow) : List (Int × Value) := L.map fun p => (p.2.hash w, Value.ref p.1)
def hashesK (w : World) (L : List KRow) : List Int := L.map fun p => p.2.hash w
structure SetK8 (w : World) (h : Heap) (a : Addr) (L : List KRow) (es : Array (Int × Value)) (ep : Nat) (t : SetTable) : Prop where
  ob : ∃ o, h.get? a = some o ∧ o.ExactSet ∧ o.data = .set es ep t
  rows : es.toList = rowsK w L
  tab : TabB t (hashesK w L)
  nd : (L.map (·.2)).Nodup
  key : ∀ p ∈ L, KeyOf h p.2 p.1
  led : w.params.followText "set-order" = true ∨ t.led = true
  room : L.length * 5 < t.mask * 3
  few : L.length < 1200
section
variable {P : Program} {w : World} {A : Around} {E : Value → Shared → Prop} {s : Shared} {a : Addr} {L : List KRow} {es : Array (Int × Value)} {ep : Nat} {t : SetTable}
theorem SetK8.row (R : SetK8 w s.heap a L es ep t) {i : Nat} {p : KRow} (h : L[i]? = some p) : es[i]? = some (p.2.hash w, Value.ref p.1) := by
  have : es.toList[i]? = some (p.2.hash w, Value.ref p.1) := by
    rw [R.rows, rowsK, List.getElem?_map, h]
    rfl
  simpa using this
end
structure Has (ks : List KRow) (i : Nat) (L : List KRow) : Prop where
  sub : ∀ p ∈ L, p ∈ ks.take i
  all : ∀ p ∈ ks.take i, p.2 ∈ L.map (·.2)
  len : L.length ≤ i
theorem Has.next {ks L L' : List KRow} {i : Nat} {x : KRow} (g : Has ks i L) (h : ks[i]? = some x) (old : x.2 ∈ L.map (·.2) → L' = L) (new : x.2 ∉ L.map (·.2) → L'.Perm (x :: L)) : Has ks (i + 1) L' := by
  have tk : ks.take (i + 1) = ks.take i ++ [x] := by rw [List.take_succ, h]; rfl
  by_cases hm : x.2 ∈ L.map (·.2)
  · rw [old hm]
    refine ⟨fun p hp => by rw [tk]; exact List.mem_append_left _ (g.sub p hp), fun p hp => ?_, Nat.le_succ_of_le g.len⟩
    rw [tk] at hp
    rcases List.mem_append.mp hp with z | z
    · exact g.all p z
    · rw [List.mem_singleton.mp z]
      exact hm
  · have pm := new hm
    refine ⟨fun p hp => ?_, fun p hp => ?_, by rw [pm.length_eq, List.length_cons]; exact Nat.succ_le_succ g.len⟩
    · rw [tk]
      rcases List.mem_cons.mp (pm.mem_iff.mp hp) with e | z
      · rw [e]
        simp
      · exact List.mem_append_left _ (g.sub p z)
    · rw [(pm.map (·.2)).mem_iff, List.map_cons]
      rw [tk] at hp
      rcases List.mem_append.mp hp with z | z
      · exact List.mem_cons_of_mem _ (g.all p z)
      · rw [List.mem_singleton.mp z]
        exact List.mem_cons_self
theorem SetK8.on {w : World} {h h' : Heap} {a : Addr} {L : List KRow} {es : Array (Int × Value)} {ep : Nat} {t : SetTable} (R : SetK8 w h a L es ep t) (ha : ∀ o, h.get? a = some o → h'.get? a = some o) (hk : ∀ p ∈ L, KeyOf h' p.2 p.1) : SetK8 w h' a L es ep t := by
  obtain ⟨o, ho, r⟩ := R.ob
  exact { R with ob := ⟨o, ha o ho, r⟩, key := hk }
abbrev set0 (w : World) : Obj := { cls := .type "set", dict := none, data := .set #[] 0 (.fresh 0 0 (!w.params.followText "set-order")) }
theorem SetK8.new {w : World} {h : Heap} {a : Addr} (ho : h.get? a = some (set0 w)) : SetK8 w h a [] #[] 0 (.fresh 0 0 (!w.params.followText "set-order")) where
  ob := ⟨_, ho, ⟨rfl, rfl, rfl⟩, rfl⟩
  rows := rfl
  tab := ⟨.nil, rfl, rfl, .inl rfl, fun _ h => (by cases h), fun _ _ _ h => (by simp [hashesK] at h)⟩
  nd := .nil
  key := fun _ h => (by cases h)
  led := by
    show _ ∨ (!w.params.followText "set-order") = true
    cases w.params.followText "set-order" <;> simp
  room := by
    show 0 * 5 < 7 * 3
    decide
  few := by
    show 0 < 1200
    decide
end PD
namespace PD
open PySem PySem.Spec PyProof.Rows L2
theorem toKeys_cons {x : PyData} {xs : List PyData} {ks : List NestedKey} (h : toKeys (x :: xs) = some ks) : ∃ k r, ks = k :: r ∧ toKey x = some k ∧ toKeys xs = some r := by
  simp only [toKeys] at h
  cases e1 : toKey x with
  | none => rw [e1] at h; cases h
  | some k =>
    rw [e1] at h
    cases e2 : toKeys xs with
    | none => rw [e2] at h; cases h
    | some r =>
      rw [e2] at h
      exact ⟨k, r, (Option.some.inj h).symm, rfl, rfl⟩
theorem toKey_tup {xs : List PyData} {k : NestedKey} (h : toKey (.tuple xs) = some k) : ∃ ks, k = .tup ks ∧ toKeys xs = some ks := by
  simp only [toKey, Option.map_eq_some_iff] at h
  obtain ⟨ks, e, rfl⟩ := h
  exact ⟨ks, rfl, e⟩
section
variable {X : Cx} {pins : List (Addr × Obj)} {σ : L2.St} {H : Hp} {s : Shared} {F : Addr → Prop}
mutual
theorem Rp.nkey (I : Inv X pins σ H s) : ∀ {d : PyData} {v : V} {u : Value} {k : NestedKey}, Rp (.of X) F H d v → RelV v u → toKey d = some k → NestedIs s.heap k u
  | .none, _, _, _, .non, r, h => by
    cases h
    rw [show _ = Value.none from r]
    exact .none
  | .int i, _, _, _, .int _, r, h => by
    cases h
    obtain ⟨t, rfl⟩ := r
    exact .int _ _
  | .str i, _, _, _, .str _, r, h => by
    cases h
    obtain ⟨t, rfl⟩ := r
    exact .text _ _
  | .tuple xs, _, _, _, .tup hx ra, r, h => by
    obtain ⟨ks, rfl, e⟩ := toKey_tup h
    obtain ⟨its, rv, ⟨o, ho, hc, n, hd⟩, _⟩ := I.tuple hx
    rw [show _ = Value.ref _ from r]
    exact .tup ho hc hd (by simpa using RpAll.nkeys I ra rv e)
  | .bool _, _, _, _, _, _, h => by cases h
  | .list _, _, _, _, _, _, h => by cases h
  | .dict _, _, _, _, _, _, h => by cases h
theorem RpAll.nkeys (I : Inv X pins σ H s) : ∀ {ds : List PyData} {vs : List V} {us : List Value} {ks : List NestedKey}, RpAll (.of X) F H ds vs → Vals vs us → toKeys ds = some ks → NestedAll s.heap ks us
  | [], _, _, _, .nil, .nil, h => by
    cases h
    exact .nil
  | d :: ds, _, _, _, .cons r t, .cons q u, h => by
    obtain ⟨_, _, rfl, e1, e2⟩ := toKeys_cons h
    exact .cons (Rp.nkey I r q e1) (RpAll.nkeys I t u e2)
end
end
end PD
namespace PD
open PySem PySem.Spec PyProof.Rows L2
def RowsAt (M : Mo) (F : Addr → Prop) (H : Hp) (L : List KRow) : Prop := ∀ p ∈ L, Rp M F H p.2.data (.ref p.1) ∧ toKey p.2.data = some p.2 ∧ p.2.depth ≤ 8
theorem RowsAt.keys {X : Cx} {pins : List (Addr × Obj)} {σ : L2.St} {H : Hp} {s : Shared} {F : Addr → Prop} {L : List KRow} (I : Inv X pins σ H s) (h : RowsAt (.of X) F H L) : ∀ p ∈ L, KeyOf s.heap p.2 p.1 := fun p hp => by
  obtain ⟨h1, h2, h3⟩ := h p hp
  exact ⟨h1.nkey I rfl h2, h3⟩
end PD
namespace PD
open PySem PySem.Spec PyProof.Rows L2
section
variable {prog : Program} {w : World} {A : Around} {E : Value → Shared → Prop} {s : Shared}
theorem adjust_rev (n : Nat) : Builtin.Slice.sliceAdjust none none (-1) (n : Int) = ((n : Int) - 1, -1) := by
  simp [Builtin.Slice.sliceAdjust]
theorem places_rev (n : Nat) : Builtin.Slice.slicePlaces ((n : Int) - 1) (-1) (-1) = n := by
  unfold Builtin.Slice.slicePlaces
  simp only [show ¬ ((-1 : Int) > 0) by omega, if_false]
  split
  · simp
  · omega
theorem pick_rev (xs : Array Value) : ((List.range xs.size).filterMap fun (k : Nat) => xs[(((xs.size : Int) - 1) + (k : Int) * (-1)).toNat]?) = xs.toList.reverse := by
  have e : (List.range xs.size).filterMap (fun (k : Nat) => xs[(((xs.size : Int) - 1) + (k : Int) * (-1)).toNat]?) = ((List.range xs.size).map fun k => xs.size - 1 - k).filterMap (xs[·]?) := by
    rw [List.filterMap_map]
    have : ∀ l : List Nat, (∀ k ∈ l, k < xs.size) → l.filterMap (fun (k : Nat) => xs[(((xs.size : Int) - 1) + (k : Int) * (-1)).toNat]?) = l.filterMap ((xs[·]?) ∘ fun k => xs.size - 1 - k) := fun l => by
      induction l with
      | nil => exact fun _ => rfl
      | cons k l ih =>
        intro h
        have hk := h k List.mem_cons_self
        have e : (((xs.size : Int) - 1) + (k : Int) * (-1)).toNat = xs.size - 1 - k := by omega
        rw [List.filterMap_cons, List.filterMap_cons, ih fun j hj => h j (List.mem_cons_of_mem _ hj), e]
        rfl
    exact this _ fun k hk => List.mem_range.mp hk
  rw [e, PySem.W.krv_range, List.filterMap_reverse, PySem.W.krv_all]
theorem get_rev {t sl : Addr} {items : Array Value} {tk : Tok} {Q : Value → Shared → Prop} (ht : IsTup s.heap t items) (hs : s.heap.IsSliceOf sl .none .none (.int (-1) tk)) (hsz : items.size ≤ sizeLine)
    (h : Q (.ref s.heap.objs.size) { s with heap := s.heap.push { cls := .type "tuple", data := .seq items.toList.reverse.toArray } }) : wpAny (model prog w) A (getItem (.ref t) (.ref sl)) Q E s := by
  obtain ⟨os, hos, hcs, hds⟩ := id hs
  have hTs : s.TypeIs (.ref sl) "slice" := ⟨os, hos, hcs⟩
  have big : sizeOk (.seq items.toList.reverse.toArray) := by
    show items.toList.reverse.toArray.size ≤ sizeLine
    simpa using hsz
  unfold getItem
  try with_reducible refine wpAny_holding ?_
  first | refine wpAny_bind (wpAny_pure ?_) | skip
  refine wpAny_bind (wpAny_sequenceKey ht.typeIs (by decide) ?_)
  refine wpAny_bind (wpAny_callSpecial?_slot (name := Str.ofString "__getitem__") ht.typeIs PyProof.Rows.slot_tuple_getitem
    (wpAny_call_entry PyProof.Rows.slot_tuple_getitem ht.typeIs entry_tuple_getitem ?_ (args_tuple_getitem _ _)))
  show wpAny _ _ (Builtin.Tuple.tupleItemsOf (.ref t) >>= _) _ _ s
  refine wpAny_bind (PyProof.Rows.tupleItemsOf_ ht (wpAny_bind (wpAny_typeOf hTs ?_)))
  rw [if_pos (by decide)]
  have ap : ∀ {Q' : Int × Int × Nat → Shared → Prop}, Q' ((items.size : Int) - 1, -1, items.size) s → ∀ A : Around, wpAny (model prog w) A (Builtin.Slice.sliceApplied (.ref sl) (pure (items.size : Int))) Q' E s := fun {Q'} q A => by
    unfold Builtin.Slice.sliceApplied Builtin.Slice.sliceFields
    refine wpAny_bind (wpAny_bind (wpAny_field hos hds (x := .none) rfl (wpAny_bind (wpAny_field hos hds (x := .none) rfl (wpAny_bind (wpAny_field hos hds (x := .int (-1) tk) rfl (wpAny_pure ?_)))))))
    refine wpAny_bind (HT.slicePart_ (IsPart.int (-1) tk) ?_)
    show wpAny _ _ (if ((-1 : Int) == 0) = true then _ else _) _ _ s
    rw [if_neg (by decide)]
    refine wpAny_bind (HT.slicePart_ .none (wpAny_bind (HT.slicePart_ .none (wpAny_bind (wpAny_pure ?_)))))
    show wpAny _ _ (match Builtin.Slice.sliceAdjust none none (-1) (items.size : Int) with | (lo, hi) => pure (lo, (-1 : Int), Builtin.Slice.slicePlaces lo hi (-1))) _ _ s
    rw [adjust_rev]
    show wpAny _ _ (pure ((items.size : Int) - 1, (-1 : Int), Builtin.Slice.slicePlaces ((items.size : Int) - 1) (-1) (-1))) _ _ s
    rw [places_rev]
    exact wpAny_pure q
  refine wpAny_bind (ap ?_ _)
  show wpAny _ _ (if (((items.size : Int) - 1) == 0 && (-1 : Int) == 1 && items.size == items.size) = true then _ else _) _ _ s
  rw [if_neg (by simp), pick_rev]
  first
    | exact wpAny_bind (m := Builtin.Tuple.tupleExact _) (wpAny_newObj_type (wpAny_pure ⟨_, rfl, wpAny_pure h⟩) big)
    | exact wpAny_bind (m := Builtin.Tuple.tupleExact _) (wpAny_newObj_type (wpAny_bind (wpAny_pure (wpAny_pure ⟨_, rfl, wpAny_pure h⟩))) big)
    | exact wpAny_bind (wpAny_bind (m := Builtin.Tuple.tupleExact _) (wpAny_newObj_type (wpAny_pure (wpAny_pure ⟨_, rfl, wpAny_pure h⟩)) big))
    | exact wpAny_bind (wpAny_bind (m := Builtin.Tuple.tupleExact _) (wpAny_newObj_type (wpAny_pure ⟨_, rfl, wpAny_pure h⟩) big))
end
section
variable {X : Cx} {W : WX} {O : Own} {pos : Pos}
def tRevA (K : PySem.W.Frag) (te : TE) : TE := fun σ H Q => te σ H fun x H1 => (∃ a xs, x = .ref a ∧ SqL K H1 a xs ∧ ∀ p, H1 p = none → Q (.ref p) (upd H1 p (.lst xs.reverse))) ∨
  ∃ a xs, x = .ref a ∧ SqT K H1 a xs ∧ ∀ p, H1 p = none → Q (.ref p) (upd H1 p (.tup xs.reverse))
theorem pe_revA {e : Expr} {te : TE} {k : Nat} {p1 p2 p3 : Pos} (he : PE X e te) : PE X (.Subscript e (.Slice none none (some (.UnaryOp .USub (.Constant (.int 1) k p1) p2)) p3) pos) (tRevA X.K te) := by
  refine ⟨fun pins s σ H Q I h => ?_⟩
  refine Subscript_ (thn (he.run pins s σ H _ I h) fun v s1 ⟨x, H1, I1, r1, q1⟩ => ?_)
  have hst : PO X (some (.UnaryOp .USub (.Constant (.int 1) k p1) p2)) (tPart (tUn (rU fun i => .int (-i)) (tC (.int 1)))) := po_some (pe_un un_neg pe_int)
  refine wpAny_Slice (thn (po_none.run pins s1 σ H1 (fun o H2 => o = none ∧ H2 = H1) I1 ⟨rfl, rfl⟩) fun vl s2 ⟨l, H2, I2, pl, el, e2⟩ => ?_)
  subst el e2
  refine thn (po_none.run pins s2 σ H2 (fun o H3 => o = none ∧ H3 = H2) I2 ⟨rfl, rfl⟩) fun vu s3 ⟨u, H3, I3, pu, eu, e3⟩ => ?_
  subst eu e3
  refine thn (hst.run pins s3 σ H3 (fun o H4 => o = some (-1) ∧ H4 = H3) I3 ⟨1, rfl, -1, rfl, rfl, rfl⟩) fun vs s4 ⟨o, H4, I4, ps, eo, e4⟩ => ?_
  subst eo e4
  have I5 : Inv X pins σ H4 { s4 with heap := s4.heap.push { cls := .type "slice", data := .fields #[vl, vu, vs] } } := I4.kept (t' := s4.toks) fun b ob q => Heap.get?_push_of_some _ q
  rcases q1 with ⟨a, xs, ex, hx, q⟩ | ⟨a, xs, ex, hx, q⟩
  · subst ex
    cases r1
    obtain ⟨its, r, ht, hz⟩ := I5.list hx
    have hlen := r.length
    show wpAny (model X.prog X.w) X.A (subscriptTail e (.Slice none none (some (.UnaryOp .USub (.Constant (.int 1) k p1) p2)) p3) (.ref a) (.ref s4.heap.objs.size)) (EP X pins σ Q) X.xe { s4 with heap := s4.heap.push { cls := .type "slice", data := .fields #[vl, vu, vs] } }
    refine tail_any (ops := [.ref a, .ref s4.heap.objs.size]) ht.isList.typeIs (PySem.slot_list_getitem.lookup) ?_ (by with_unfolding_all rfl)
    refine wpAny_getItem_list_slice ht.isList (Heap.IsSliceOf.new _ vl vu vs) pl pu ps (by decide) ?_ (by rw [List.size_toArray]; omega)
    rw [PySem.W.krv_pick]
    refine ⟨.ref _, _, I5.laid (t' := s4.toks) (o := .lst xs.reverse) (fun b ob q => Heap.get?_push_of_some _ q) (Nat.le_refl _) ?_, rfl, q _ (I5.hok.fresh (Nat.le_refl _))⟩
    exact ⟨by rw [List.length_reverse]; exact hz, _, 0, r.reverse, Heap.get?_push_size _ rfl⟩
  · subst ex
    cases r1
    obtain ⟨its, r, ht, hz⟩ := I5.tuple hx
    have hlen := r.length
    cases pl
    cases pu
    cases ps with
    | int _ tk =>
      show wpAny (model X.prog X.w) X.A (subscriptTail e (.Slice none none (some (.UnaryOp .USub (.Constant (.int 1) k p1) p2)) p3) (.ref a) (.ref s4.heap.objs.size)) (EP X pins σ Q) X.xe { s4 with heap := s4.heap.push { cls := .type "slice", data := .fields #[.none, .none, .int (-1) tk] } }
      refine tail_any (ops := [.ref a, .ref s4.heap.objs.size]) ht.typeIs (PyProof.Rows.slot_tuple_getitem.lookup) ?_ (by with_unfolding_all rfl)
      refine get_rev ht (Heap.IsSliceOf.new _ .none .none (.int (-1) tk)) (by rw [List.size_toArray]; omega) ?_
      refine ⟨.ref _, _, I5.laid (t' := s4.toks) (o := .tup xs.reverse) (fun b ob q => Heap.get?_push_of_some _ q) (Nat.le_refl _) ?_, rfl, q _ (I5.hok.fresh (Nat.le_refl _))⟩
      exact ⟨by rw [List.length_reverse]; exact hz, its.toArray.toList.reverse, by simpa using r.reverse, IsTup.new _ _⟩
def revA : SV → Store → Rs SV
  | .d (.list xs), S => .ok (.d (.list xs.reverse)) S
  | .d (.tuple xs), S => .ok (.d (.tuple xs.reverse)) S
  | _, _ => .bad
theorem ce_rev {e : Expr} {m : EM} {k : Nat} {p1 p2 p3 : Pos} (he : CV X W O e m) : CE X W O (.Subscript e (.Slice none none (some (.UnaryOp .USub (.Constant (.int 1) k p1) p2)) p3) pos) (e1 revA m) :=
  peI (pe_revA he) fun σ H Q ⟨fr, S, G, R, h⟩ => ⟨fr, S, G, R, h.split fun x S1 u H1 G1 R1 st1 rx h1 => by
    unfold revA at h1
    split at h1
    · obtain ⟨_, _, rfl, q1, r1⟩ := rx.lst
      refine .inl ⟨_, _, rfl, SqL.of q1, fun p hp => ?_⟩
      obtain ⟨G2, R2, st2, q2⟩ := R1.newL hp r1.rev
      exact h1.fin R2 st2 q2
    · obtain ⟨_, _, rfl, q1, r1⟩ := rx.tup
      refine .inr ⟨_, _, rfl, q1, fun p hp => ?_⟩
      obtain ⟨R2, st2, q2⟩ := R1.newT hp r1.rev
      exact h1.fin R2 st2 q2
    · exact h1.not_bad.elim⟩
end
def ltOk (d e : PyData) : Bool := PySem.W.alike d e && decide (min d.depth e.depth ≤ 190)
def ltD : SV → SV → Store → Rs SV
  | .d (.tuple xs), .d (.tuple ys), S => if ltOk (.tuple xs) (.tuple ys) = true then .ok (.d (.bool (PySem.W.dataLt (.tuple xs) (.tuple ys)))) S else .bad
  | x, y, S => ltV x y S
def ltDR (X : Cx) : R2 := fun x y H Q => (∃ F F' xs ys, Rp (.of X) F H (.tuple xs) x ∧ Rp (.of X) F' H (.tuple ys) y ∧ ltOk (.tuple xs) (.tuple ys) = true ∧ Q (.bl (PySem.W.dataLt (.tuple xs) (.tuple ys))) H) ∨ (cmpR (fun i j => decide (i < j)) fun i j => decide (i.cps.toList < j.cps.toList)) x y H Q
theorem op_ltD {X : Cx} {k : Nat} (hr : Room k X.A) : OpR X (compareOp .Lt) (ltDR X) := by
  intro pins s σ H x y v u Q I rx ry h
  rcases h with ⟨F, F', xs, ys, hd, he, ok, q⟩ | h
  · obtain ⟨as, r1⟩ := hd.reads I rx
    obtain ⟨bs, r2⟩ := he.reads I ry
    simp only [ltOk, Bool.and_eq_true, decide_eq_true_eq] at ok
    exact PySem.W.rcLt_alike _ _ X.A s v u as bs r1 r2 ok.1 (fun z => by cases z) (room190 hr ok.2) X.prog X.w X.xe (EP X pins σ Q) ⟨.bl _, H, I, rfl, q⟩
  · exact op_ltR pins s σ H x y v u Q I rx ry h
theorem p_ltD {X : Cx} : P2 (.of X) (ltDR X) ltD := by
  intro W O σ H fr S G x y u v Q R rx ry h
  unfold ltD at h
  split at h
  · split at h
    · rename_i ok
      obtain ⟨_, rx⟩ := rx.any
      obtain ⟨_, ry⟩ := ry.any
      exact .inl ⟨_, _, _, _, rx, ry, ok, h.here R (.bl _)⟩
    · exact h.not_bad.elim
  · exact .inr (p_lt R rx ry h)
end PD
namespace PD
open PySem PySem.Spec PyProof.Rows L2
def isTup : PyData → Bool
  | .tuple _ => true
  | _ => false
def keyT (d : PyData) : Bool := isTup d && (match toKey d with
  | some k => decide (k.depth ≤ 8)
  | none => false)
theorem keyT_some {d : PyData} (h : keyT d = true) : ∃ k, toKey d = some k ∧ k.depth ≤ 8 := by
  simp only [keyT, Bool.and_eq_true] at h
  obtain ⟨_, h⟩ := h
  cases e : toKey d with
  | none => rw [e] at h; cases h
  | some k => rw [e] at h; exact ⟨k, rfl, by simpa using h⟩
def dget (ds : List (PyData × PyData)) (kd : PyData) : Option PyData := (ds.find? fun p => decide (toKey p.1 = toKey kd)).map (·.2)
def dput (ds : List (PyData × PyData)) (kd vd : PyData) : List (PyData × PyData) := if (dget ds kd).isSome = true then ds.map fun p => if toKey p.1 = toKey kd then (p.1, vd) else p else ds ++ [(kd, vd)]
def tupKeys (ds : List (PyData × PyData)) : Bool := ds.all fun p => isTup p.1
abbrev ER := NestedKey × Addr × V
def esPut (es : List ER) (k : NestedKey) (b : Addr) (v : V) : List ER := if (es.any fun e => decide (e.1 = k)) = true then es.map fun e => if e.1 = k then (e.1, e.2.1, v) else e else es ++ [(k, b, v)]
abbrev DR (M : Mo) (F : Addr → Prop) (H : Hp) : List (PyData × PyData) → List ER → Prop := Paired fun p e => (toKey p.1 = some e.1 ∧ e.1.depth ≤ 8) ∧ Rp M F H p.1 (.ref e.2.1) ∧ Rp M F H p.2 e.2.2
section
variable {M : Mo} {F F' : Addr → Prop} {H H' : Hp}
theorem DR.of : ∀ {ds : List (PyData × PyData)} {es : List ER}, KeysAre ds es → RpAll M F H (ds.map (·.1)) (es.map fun e => V.ref e.2.1) → RpAll M F H (ds.map (·.2)) (es.map (·.2.2)) → DR M F H ds es
  | _, _, .nil, _, _ => .nil
  | _, _, .cons h t, .cons r1 t1, .cons r2 t2 => .cons ⟨h, r1, r2⟩ (DR.of t t1 t2)
theorem DR.parts : ∀ {ds : List (PyData × PyData)} {es : List ER}, DR M F H ds es → KeysAre ds es ∧ RpAll M F H (ds.map (·.1)) (es.map fun e => V.ref e.2.1) ∧ RpAll M F H (ds.map (·.2)) (es.map (·.2.2))
  | _, _, .nil => ⟨.nil, .nil, .nil⟩
  | _, _, .cons ⟨h, r1, r2⟩ t => ⟨.cons h (DR.parts t).1, .cons r1 (DR.parts t).2.1, .cons r2 (DR.parts t).2.2⟩
theorem DR.keep (k : Keeps F F' H H') {ds : List (PyData × PyData)} {es : List ER} (h : DR M F H ds es) : DR M F' H' ds es := Paired.mapP h fun _ _ ⟨a, b, c⟩ => ⟨a, Rp.keep k b, Rp.keep k c⟩
theorem DR.any {kd : PyData} {k : NestedKey} (hk : toKey kd = some k) : ∀ {ds : List (PyData × PyData)} {es : List ER}, DR M F H ds es → (dget ds kd).isSome = es.any fun e => decide (e.1 = k)
  | _, _, .nil => rfl
  | _, _, .cons (a := p) (b := e) ⟨⟨h, _⟩, _, _⟩ t => by
    have ih := DR.any hk t
    rw [List.any_cons, ← ih]
    unfold dget
    rw [List.find?_cons]
    by_cases q : e.1 = k
    · have : decide (toKey p.1 = toKey kd) = true := by rw [h, hk, q]; simp
      rw [this]
      simp [q]
    · have : decide (toKey p.1 = toKey kd) = false := by rw [h, hk]; simp [q]
      rw [this]
      simp [q]
theorem DR.repl {kd vd : PyData} {k : NestedKey} {v : V} (hk : toKey kd = some k) (rv : Rp M F H vd v) : ∀ {ds : List (PyData × PyData)} {es : List ER}, DR M F H ds es →
    DR M F H (ds.map fun p => if toKey p.1 = toKey kd then (p.1, vd) else p) (es.map fun e => if e.1 = k then (e.1, e.2.1, v) else e)
  | _, _, .nil => .nil
  | _, _, .cons (a := p) (b := e) ⟨⟨h, hd⟩, r1, r2⟩ t => by
    rw [List.map_cons, List.map_cons]
    refine .cons ?_ (DR.repl hk rv t)
    by_cases q : e.1 = k
    · rw [if_pos q, if_pos (by rw [h, hk, q])]
      exact ⟨⟨h, hd⟩, r1, rv⟩
    · rw [if_neg q, if_neg (by rw [h, hk]; simp [q])]
      exact ⟨⟨h, hd⟩, r1, r2⟩
theorem DR.put {kd vd : PyData} {k : NestedKey} {b : Addr} {v : V} {ds : List (PyData × PyData)} {es : List ER} (h : DR M F H ds es) (hk : toKey kd = some k) (dk : k.depth ≤ 8) (rk : Rp M F H kd (.ref b)) (rv : Rp M F H vd v) : DR M F H (dput ds kd vd) (esPut es k b v) := by
  unfold dput esPut
  rw [DR.any hk h]
  by_cases q : (es.any fun e => decide (e.1 = k)) = true
  · rw [if_pos q, if_pos q]; exact DR.repl hk rv h
  · rw [if_neg q, if_neg q]; exact Paired.snoc h ⟨⟨hk, dk⟩, rk, rv⟩
abbrev XR : List ER → List (NestedKey × Addr × Value) → Prop := Paired fun e x => e.1 = x.1 ∧ e.2.1 = x.2.1 ∧ RelV e.2.2 x.2.2
theorem XR.val {k : NestedKey} : ∀ {es : List ER} {xs : List (NestedKey × Addr × Value)}, XR es xs → (es.any fun e => decide (e.1 = k)) = (atKey xs k).isSome
  | _, _, .nil => rfl
  | _, _, .cons (a := e) (b := x) ⟨h, _, _⟩ t => by
    rw [List.any_cons, XR.val t]
    unfold atKey
    rw [List.find?_cons, ← h]
    by_cases q : e.1 = k
    · simp [q]
    · simp [q]
theorem XR.put {k : NestedKey} {b : Addr} {v : V} {u : Value} (rv : RelV v u) {es : List ER} {xs : List (NestedKey × Addr × Value)} (h : XR es xs) : XR (esPut es k b v) (storedH xs k b u) := by
  unfold esPut storedH
  rw [XR.val h]
  by_cases q : (atKey xs k).isSome = true
  · rw [if_pos q, if_pos q]
    clear q
    induction h with
    | nil => exact .nil
    | @cons e x es xs h t ih =>
      rw [List.map_cons, List.map_cons]
      refine .cons ?_ ih
      obtain ⟨h1, h2, h3⟩ := h
      unfold putAt
      by_cases q : e.1 = k
      · rw [if_pos q, if_pos (h1.symm.trans q)]; exact ⟨h1, h2, rv⟩
      · rw [if_neg q, if_neg (fun z => q (h1.trans z))]; exact ⟨h1, h2, h3⟩
  · rw [if_neg q, if_neg q]; exact Paired.snoc h ⟨rfl, rfl, rv⟩
theorem XR.keys {es : List ER} {xs : List (NestedKey × Addr × Value)} (h : XR es xs) : es.map (·.1) = xs.map (·.1) := by
  induction h with
  | nil => rfl
  | cons h t ih => rw [List.map_cons, List.map_cons, ih, h.1]
end
section
variable {P : Program} {w : World} {h : Heap} {a : Addr}
theorem xs_of {P : Program} : ∀ {es : List ER} {ds : List DictEntry}, Paired (fun (p : NestedKey × Addr × V) (e : DictEntry) => e.hash = p.1.hash w ∧ e.key = .ref p.2.1 ∧ RelV p.2.2 e.val) es ds →
    ∃ xs : List (NestedKey × Addr × Value), XR es xs ∧ ds = xs.map (entryOfKey (nestedKind P w))
  | _, _, .nil => ⟨[], .nil, rfl⟩
  | _, _, .cons (a := p) (b := e) ⟨h1, h2, h3⟩ t => by
    obtain ⟨xs, r, q⟩ := xs_of (P := P) t
    obtain ⟨eh, ek, ev⟩ := e
    simp only at h1 h2 h3
    subst h1 h2
    exact ⟨(p.1, p.2.1, ev) :: xs, .cons ⟨rfl, rfl, h3⟩ r, by rw [List.map_cons, q]; rfl⟩
theorem of_dictObj {es : List ER} {oo : Obj} (o : dictObj w a es oo h) (ky : ∀ e ∈ es, NestedIs h e.1 (.ref e.2.1) ∧ e.1.depth ≤ 8) : ∃ xs, XR es xs ∧ h.DictOfH (nestedKind P w) a xs ∧ (a == sysModules) = false := by
  obtain ⟨ds, ep, e, hx, hd, hp, nd, ne⟩ := o
  obtain ⟨xs, r, q⟩ := xs_of (P := P) hp
  refine ⟨xs, r, ⟨oo, ds, ep, e, hx, hd, q, fun x hxm => ?_, by rw [← r.keys]; exact nd⟩, beq_eq_false_iff_ne.mpr (Ne.symm ne)⟩
  have all : ∀ {es : List ER} {xs : List (NestedKey × Addr × Value)}, XR es xs → (∀ e ∈ es, NestedIs h e.1 (.ref e.2.1) ∧ e.1.depth ≤ 8) → ∀ x ∈ xs, (nestedKind P w).is h x.1 x.2.1 := by
    intro es xs r
    induction r with
    | nil => intro _ x hx; exact nomatch hx
    | @cons e x es xs hh t ih =>
      intro ky y hy
      rcases List.mem_cons.mp hy with q | q
      · subst q
        have := ky e List.mem_cons_self
        rw [hh.1, hh.2.1] at this
        exact this
      · exact ih (fun e he => ky e (List.mem_cons_of_mem _ he)) y q
  exact all r ky x hxm
theorem to_dictObj {es : List ER} {xs : List (NestedKey × Addr × Value)} (r : XR es xs) (d : h.DictOfH (nestedKind P w) a xs) (ne : (a == sysModules) = false) : ∃ o, dictObj w a es o h := by
  obtain ⟨o, ds, ep, e, hx, hd, q, hk, nd⟩ := d
  refine ⟨o, ds, ep, e, hx, hd, ?_, by rw [r.keys]; exact nd, Ne.symm (beq_eq_false_iff_ne.mp ne)⟩
  rw [q]
  clear q nd hd hk
  induction r with
  | nil => exact .nil
  | @cons e x es xs hh t ih => exact .cons ⟨by rw [hh.1]; rfl, by rw [hh.2.1]; rfl, hh.2.2⟩ ih
theorem ext_ok {P : Program} {H : Hp} {es : List ER} {o : Obj} (d : dictObj w a es o h) : ObjOk P w H h a (.ext (dictObj w a es o)) :=
  ⟨d, let ⟨_, _, e, _⟩ := d; ⟨o, e⟩, fun h1 h2 ⟨ds, ep, e, r⟩ k => ⟨ds, ep, k o e, r⟩⟩
end
section
variable {X : Cx} {pins : List (Addr × Obj)} {σ : L2.St} {H : Hp} {s : Shared} {F : Addr → Prop} {a : Addr}
def DAt (X : Cx) (H : Hp) (a : Addr) (es : List ER) : Prop := (∃ o, H a = some (.ext (dictObj X.w a es o))) ∨ (es = [] ∧ H a = some (.dK []))
theorem DAt.heap (I : Inv X pins σ H s) {ds : List (PyData × PyData)} {es : List ER} (h : DAt X H a es) (r : DR (.of X) F H ds es) : ∃ xs, XR es xs ∧ s.heap.DictOfH (nestedKind X.prog X.w) a xs ∧ (a == sysModules) = false := by
  rcases h with ⟨_, h⟩ | ⟨rfl, h⟩
  · obtain ⟨d, _⟩ := I.hok _ _ h
    refine of_dictObj d ?_
    have all : ∀ {ds : List (PyData × PyData)} {es : List ER}, DR (.of X) F H ds es → ∀ e ∈ es, NestedIs s.heap e.1 (.ref e.2.1) ∧ e.1.depth ≤ 8 := by
      intro ds es r
      induction r with
      | nil => intro e he; exact nomatch he
      | @cons p e ds es hh t ih =>
        intro y hy
        rcases List.mem_cons.mp hy with q | q
        · subst q
          exact ⟨Rp.nkey I hh.2.1 rfl hh.1.1, hh.1.2⟩
        · exact ih y q
    exact all r
  · obtain ⟨_, y, vs, rv, o, es, ep, e, hx, hd, ko, hp, nd⟩ := I.hok _ _ h
    cases rv
    refine ⟨[], .nil, ⟨o, es, ep, e, hx, hd, ?_, (fun x hx => by cases hx), List.nodup_nil⟩, y⟩
    have hp' : Pairs (mixKind X.prog X.w) es.toList [] := hp
    cases hq : es.toList with
    | nil => rfl
    | cons z zs => rw [hq] at hp'; cases hp'
theorem tupKeys_dK {M : Mo} : ∀ {ds : List (PyData × PyData)} {kvs : List (Key × V)}, RpAll M F H (ds.map (·.1)) (kvs.map fun p => kV p.1) → tupKeys ds = true → ds = [] ∧ kvs = []
  | [], [], _, _ => ⟨rfl, rfl⟩
  | [], _ :: _, r, _ => by cases r
  | _ :: _, [], r, _ => by cases r
  | (k, v) :: ds, (q, u) :: kvs, r, h => by
    exfalso
    simp only [tupKeys, List.all_cons, Bool.and_eq_true] at h
    rw [List.map_cons, List.map_cons] at r
    cases r with
    | cons r t =>
      obtain ⟨h, _⟩ := h
      cases k with
      | tuple xs =>
        cases q with
        | inl i => exact nomatch (show Rp M F H (.tuple xs) (.int i) from r)
        | inr i => exact nomatch (show Rp M F H (.tuple xs) (.str i) from r)
      | _ => simp [isTup] at h
theorem Rp.dAt {ds : List (PyData × PyData)} {v : V} (r : Rp (.of X) F H (.dict ds) v) (h : tupKeys ds = true) : ∃ a es, v = .ref a ∧ DAt X H a es ∧ DR (.of X) F H ds es := by
  cases r with
  | dK f q r1 r2 =>
    obtain ⟨rfl, rfl⟩ := tupKeys_dK r1 h
    exact ⟨_, [], rfl, .inr ⟨rfl, q⟩, .nil⟩
  | dN f q z r1 r2 => exact ⟨_, _, rfl, .inl ⟨_, q⟩, DR.of z r1 r2⟩
theorem Cont.dAt {ds : List (PyData × PyData)} (c : Cont (.of X) F H a (.d (.dict ds))) (h : tupKeys ds = true) : ∃ es, DAt X H a es ∧ DR (.of X) F H ds es := by
  rcases c with ⟨_, _, e, _⟩ | ⟨es, kvs, e, q, r1, r2⟩ | ⟨es, kvs, o, e, q, z, r1, r2⟩
  · cases e
  · cases e
    obtain ⟨rfl, rfl⟩ := tupKeys_dK r1 h
    exact ⟨[], .inr ⟨rfl, q⟩, .nil⟩
  · cases e
    exact ⟨_, .inl ⟨_, q⟩, DR.of z r1 r2⟩
theorem Rp.keyAt (I : Inv X pins σ H s) {kd : PyData} {v : V} (r : Rp (.of X) F H kd v) (h : keyT kd = true) : ∃ b k, v = .ref b ∧ toKey kd = some k ∧ (nestedKind X.prog X.w).is s.heap k b := by
  obtain ⟨k, e, dk⟩ := keyT_some h
  cases kd with
  | tuple xs =>
    cases r with
    | tup q rr => exact ⟨_, k, rfl, e, Rp.nkey I (Rp.tup q rr) rfl e, dk⟩
  | _ => simp [keyT, isTup] at h
theorem DR.get {M : Mo} {kd : PyData} {k : NestedKey} (hk : toKey kd = some k) : ∀ {ds : List (PyData × PyData)} {es : List ER} {xs : List (NestedKey × Addr × Value)}, DR M F H ds es → XR es xs → ∀ {d : PyData}, dget ds kd = some d →
    ∃ p v, atKey xs k = some p ∧ Rp M F H d v ∧ RelV v p.2
  | _, _, _, .nil, .nil, _, e => by cases e
  | _, _, _, .cons (a := p) (b := e) ⟨⟨h, _⟩, _, r2⟩ t, .cons (b := x) ⟨h1, h2, h3⟩ t', d, eq => by
    unfold dget at eq
    rw [List.find?_cons] at eq
    unfold atKey
    rw [List.find?_cons]
    by_cases q : e.1 = k
    · have z : decide (toKey p.1 = toKey kd) = true := by rw [h, hk, q]; simp
      have z2 : decide (x.1 = k) = true := by rw [← h1]; simpa using q
      rw [z] at eq
      rw [z2]
      cases eq
      exact ⟨_, _, rfl, r2, h3⟩
    · have z : decide (toKey p.1 = toKey kd) = false := by rw [h, hk]; simp [q]
      have z2 : decide (x.1 = k) = false := by rw [← h1]; simpa using q
      rw [z] at eq
      rw [z2]
      exact DR.get hk t t' eq
end
def inDV (neg : Bool) : SV → SV → Store → Rs SV
  | .d x, .d (.dict ds), S => if (keyT x && tupKeys ds) = true then .ok (.d (.bool (neg ^^ (dget ds x).isSome))) S else .bad
  | _, _, _ => .bad
def ixDV : SV → SV → Store → Rs SV
  | .d (.dict ds), .d x, S => if (keyT x && tupKeys ds) = true then (match dget ds x with
    | some d => .ok (.d d) S
    | none => .bad) else .bad
  | _, _, _ => .bad
def inDR (X : Cx) (neg : Bool) : R2 := fun x y H Q => ∃ F F' d ds, Rp (.of X) F H d x ∧ Rp (.of X) F' H (.dict ds) y ∧ keyT d = true ∧ tupKeys ds = true ∧ Q (.bl (neg ^^ (dget ds d).isSome)) H
def ixDR (X : Cx) : R2 := fun x y H Q => ∃ F F' a es ds d z, x = .ref a ∧ DAt X H a es ∧ DR (.of X) F H ds es ∧ Rp (.of X) F' H d y ∧ keyT d = true ∧ dget ds d = some z ∧ ∀ v, Rp (.of X) F H z v → Q v H
theorem room_n {X : Cx} {k : Nat} (hr : Room k X.A) : (nestedKind X.prog X.w).room X.A.in1 := by
  have := hr.un
  show X.A.units + 1 + 8 < cLine
  omega
section
variable {X : Cx} {k : Nat}
theorem op_notInD (hr : Room k X.A) : OpR X (compareOp .NotIn) (inDR X true) := by
  intro pins s σ H x y v u Q I rx ry ⟨F, F', d, ds, hd, he, kt, tk, q⟩
  obtain ⟨b, kk, rfl, ek, hk⟩ := hd.keyAt I kt
  obtain ⟨a, es, rfl, at_, dr⟩ := he.dAt tk
  obtain ⟨xs, xr, dd, ne⟩ := at_.heap I dr
  cases rx
  cases ry
  refine wpAny_notIn_heap (room_n hr) hk ne dd ?_
  rw [← xr.val, ← DR.any ek dr]
  exact ⟨.bl _, H, I.tok _, rfl, by simpa using q⟩
theorem p_inD {neg : Bool} : P2 (.of X) (inDR X neg) (inDV neg) := by
  intro W O σ H fr S G x y u v Q R rx ry h
  unfold inDV at h
  split at h
  · split at h
    · rename_i hz
      rw [Bool.and_eq_true] at hz
      obtain ⟨_, rx⟩ := rx.any
      obtain ⟨_, ry⟩ := ry.any
      exact ⟨_, _, _, _, rx, ry, hz.1, hz.2, h.here R (.bl _)⟩
    · exact h.not_bad.elim
  · exact h.not_bad.elim
theorem RpV.dAt {G : Gh} {H : Hp} {ds : List (PyData × PyData)} {u : V} (r : RpV (.of X) G H (.d (.dict ds)) u) (h : tupKeys ds = true) : ∃ a es, u = .ref a ∧ DAt X H a es ∧ DR (.of X) G.F H ds es := by
  cases r with
  | val r => exact Rp.dAt r h
  | ownD n c =>
    obtain ⟨es, x, y⟩ := c.dAt h
    exact ⟨_, es, rfl, x, y⟩
theorem ix_dict (hr : Room k X.A) : IxR X (ixDR X) := by
  intro value slice pins s σ H x y v u Q I rx ry h hs
  obtain ⟨F, F', a, es, ds, d, z, rfl, at_, dr, hd, kt, hz, q⟩ := h
  obtain ⟨b, kk, rfl, ek, hk⟩ := hd.keyAt I kt
  obtain ⟨xs, xr, dd, ne⟩ := at_.heap I dr
  cases rx
  cases ry
  obtain ⟨p, v, hp, rv, rel⟩ := DR.get ek dr xr hz
  exact subscriptTail_builtinR (x := p.2) dd.typeIs PySem.F.slot_dict_getitem.lookup
    (wpAny_getItem_heap (Q := fun r s' => r = p.2 ∧ EP X pins σ Q r s') (room_n hr) hk dd hp ⟨rfl, v, H, I.tok _, rel, q v rv⟩) hs
theorem p_ixD : P2 (.of X) (ixDR X) ixDV := by
  intro W O σ H fr S G x y u v Q R rx ry h
  unfold ixDV at h
  split at h
  · split at h
    · rename_i hz
      rw [Bool.and_eq_true] at hz
      split at h
      · rename_i hd
        obtain ⟨_, ry⟩ := ry.any
        obtain ⟨a, es, rfl, at_, dr⟩ := rx.dAt hz.2
        exact ⟨_, _, a, es, _, _, _, rfl, at_, dr, ry, hz.1, hd, fun v rv => h.here R (show RpS (.of X) G H (.d _) v from rv)⟩
      · exact h.not_bad.elim
    · exact h.not_bad.elim
  · exact h.not_bad.elim
end
def ownD (fr : Fr) (i : Nat) : Option (List (PyData × PyData)) := match fr[i]? with
  | some (some (.d (.dict ds))) => some ds
  | _ => none
theorem ownD_some {fr : Fr} {i : Nat} {ds : List (PyData × PyData)} (h : ownD fr i = some ds) : fr[i]? = some (some (.d (.dict ds))) := by
  unfold ownD at h
  split at h
  · rename_i e
    cases h
    exact e
  · cases h
def eD (i : Nat) : EM := fun fr S => match ownD fr i with
  | some ds => .ok (.d (.dict ds)) S
  | none => .bad
theorem cv_ownD {X : Cx} {W : WX} {O : Own} {pos : Pos} (i : Nat) {x : Str} (ho : (O[i]? == some true) = true := by rfl) (hN : X.N[i]? = some x := by rfl) (hv : Vis X.env.scope x := by first | exact Or.inl rfl | exact Or.inr (Or.inl rfl) | exact Or.inr (Or.inr rfl)) (hd : (x == ("__debug__" : Str)) = false := by decide)
    (hcd : (x == ("__classdict__" : Str)) = false := by decide) : CV X W O (.Name x pos) (eD i) := by
  refine peI (pe_var hN hv hd hcd) fun σ H Q ⟨fr, S, G, R, p⟩ => ?_
  have ho' : O.has i := by simpa [Own.has] using ho
  unfold eD at p
  split at p
  · rename_i ds hds
    obtain ⟨u, h1, h2, _⟩ := R.slot i _ (ownD_some hds)
    obtain ⟨a, e, nf, nr, h0, c⟩ := h2 ho'
    subst e
    exact ⟨_, h1, p.here R (.ownD nr c)⟩
  · exact p.not_bad.elim
def rSetD (X : Cx) : TSet := fun o i v H Q => ∃ F F' a b es ds kd, o = .ref a ∧ DAt X H a es ∧ DR (.of X) F H ds es ∧ i = .ref b ∧ Rp (.of X) F' H kd (.ref b) ∧ keyT kd = true ∧ es.length ≤ sizeLine ∧
  ∀ k, toKey kd = some k → k.depth ≤ 8 → ∀ oo, Q (upd H a (.ext (dictObj X.w a (esPut es k b v) oo)))
theorem set_dict {X : Cx} {k : Nat} (hr : Room k X.A) : PSet X (rSetD X) := by
  intro pins s σ H o i v ov iv u Q I ro ri rv h
  obtain ⟨F, F', a, b, es, ds, kd, rfl, at_, dr, rfl, hd, kt, hl, q⟩ := h
  obtain ⟨b', kk, eb, ek, hk⟩ := hd.keyAt I kt
  cases eb
  obtain ⟨xs, xr, dd, ne⟩ := at_.heap I dr
  cases ro
  cases ri
  refine wpAny_setItem_heap (hsz := by rw [← xr.length]; exact hl) (room_n hr) hk dd fun h' dd' hs => ?_
  have he : ∃ q, h'.get? a = some q := let ⟨q, _, _, hq, _⟩ := dd'; ⟨q, hq⟩
  obtain ⟨oo, doo⟩ := to_dictObj (xr.put rv) dd' ne
  refine ⟨_, d_write I ?_ hs he (ext_ok doo), q kk ek hk.2 oo⟩
  rcases at_ with ⟨_, e⟩ | ⟨_, e⟩ <;> (rw [e]; exact True.intro)
def sPutD (i : Nat) (m k : EM) : SM := fun fr S => match ownD fr i with
  | some ds => (m fr S).toS fr fun y S1 => (k fr S1).toS fr fun z S2 => (match y, z with
    | .d d, .d kd => if (keyT kd && tupKeys ds && decide (ds.length ≤ sizeLine)) = true then .nx (fr.set i (some (.d (.dict (dput ds kd d))))) S2 else .bad
    | _, _ => .bad)
  | none => .bad
section
variable {X : Cx} {W : WX} {L O : Own} {st : Stmt}
theorem cs_putD (i : Nat) {m k : EM} (ho : (O[i]? == some true) = true) (h : PS X st (tAsg (tM (.of X) W O m) (gSub (tVar i) (tM (.of X) W O k) (rSetD X)))) : CS X W L O st (sPutD i m k) O := by
  have ho' := has_of ho
  refine psI h fun D σ H ⟨fr, S, G, R, h⟩ => ?_
  unfold sPutD at h
  split at h
  · rename_i ds hds
    obtain ⟨u0, hs0, own0, _⟩ := R.slot i _ (ownD_some hds)
    refine ⟨fr, S, G, R, h.expr R fun y S1 u H1 G1 R1 st1 a1 ry h1 => ⟨u0, hs0, fr, S1, G1, R1, h1.expr R1 fun z S2 v H2 G2 R2 st2 a2 rz h2 => ?_⟩⟩
    split at h2
    · rename_i d kd
      split at h2
      · rename_i hz
        simp only [Bool.and_eq_true, decide_eq_true_eq] at hz
        obtain ⟨⟨kt, tk⟩, hl⟩ := hz
        obtain ⟨u1, hs1, own1, _⟩ := R2.slot i _ (ownD_some hds)
        have eu : u1 = u0 := by rw [hs0] at hs1; cases hs1; rfl
        subst eu
        obtain ⟨a, rfl, nf, nr, h0, c⟩ := own1 ho'
        obtain ⟨es, at_, dr⟩ := c.dAt tk
        have ry2 := R1.base.rps st2 ry
        obtain ⟨b, rfl⟩ : ∃ b, v = .ref b := by
          cases kd with
          | tuple xs =>
            cases (show Rp (.of X) G2.F H2 (.tuple xs) v from rz) with
            | tup _ _ => exact ⟨_, rfl⟩
          | _ => simp [keyT, isTup] at kt
        refine ⟨_, _, a, b, es, ds, kd, rfl, at_, dr, rfl, rz, kt, by rw [← Paired.length dr]; exact hl, fun k ek dk oo => ?_⟩
        have fz : FzOk (.of X) H2 a := (Cont.there c).choose_spec.2
        have kk := (R2.base.write (o := .ext (dictObj X.w a (esPut es k b u) oo)) nf nr h0 fz).2
        have dr2 := DR.put (DR.keep kk dr) ek dk (Rp.keep kk rz) (Rp.keep kk ry2)
        obtain ⟨p1, p2, p3⟩ := dr2.parts
        obtain ⟨R3, a3⟩ := R2.ownWrite (o := .ext (dictObj X.w a (esPut es k b u) oo)) (v' := .d (.dict (dput ds kd d))) ho' (ownD_some hds) hs0 (.inr (.inr ⟨_, _, _, rfl, upd_same, p1, p2, p3⟩))
        exact h2.nx _ S2 rfl _ _ G2 R3 a3
      · exact (h2.good rfl).elim
    · exact (h2.good rfl).elim
  · exact (h.good rfl).elim
end
theorem RpOs.step {M : Mo} {S : Store} {G G' : Gh} {H H' H0 : Hp} {os : List Bool} {xs : List SV} {us : List V} (B : Base M H S G) (st : Stp G H G' H') (r : RpOs M G H H0 os xs us) : RpOs M G' H' H0 os xs us := by
  induction r with
  | nil => exact .nil
  | val r u _ ih => exact .val (B.rps st r) u ih
  | own t n u _ ih => exact .own (t.step B st) n u ih
end PD
namespace PD
open PySem PySem.Spec PyProof.Rows L2
end PD
namespace PD
open PySem PySem.Spec PyProof.Rows L2
section
variable {prog : Program} {w : World} {A : Around} {E : Value → Shared → Prop} {s : Shared}
def EntAt (h : Heap) (d : Addr) (es : Array DictEntry) (ep : Nat) : Prop := ∃ o, h.get? d = some o ∧ o.ExactDict ∧ o.data = .dict es ep
theorem EntAt.typeIs {d : Addr} {es : Array DictEntry} {ep : Nat} (x : EntAt s.heap d es ep) : s.TypeIs (.ref d) "dict" := let ⟨o, ho, hc, _⟩ := x; ⟨o, ho, hc.1⟩
theorem EntAt.at {h h' : Heap} {d : Addr} {es : Array DictEntry} {ep : Nat} (x : EntAt h d es ep) (e : ∀ o, h.get? d = some o → h'.get? d = some o) : EntAt h' d es ep := let ⟨o, ho, r⟩ := x; ⟨o, e _ ho, r⟩
end
end PD
namespace PD
open PySem PySem.Spec PyProof.Rows L2
theorem paired_get {α β : Type} {R : α → β → Prop} : ∀ {xs : List α} {ys : List β} {i : Nat} {x : α}, Paired R xs ys → xs[i]? = some x → ∃ y, ys[i]? = some y ∧ R x y
  | _, _, i, x, .nil, h => by simp at h
  | _, _, 0, x, .cons h t, e => by simp at e; subst e; exact ⟨_, by simp, h⟩
  | _, _, i + 1, x, .cons h t, e => by
    obtain ⟨y, e1, e2⟩ := paired_get (i := i) t (by simpa using e)
    exact ⟨y, by simpa using e1, e2⟩
end PD
namespace PD
open PySem PySem.Spec PyProof.Rows L2
section
variable {X : Cx}
theorem row_in {k : Nat} (hr : Room k X.A) {pins : List (Addr × Obj)} {σ : L2.St} {H : Hp} {s : Shared} {E : Value → Shared → Prop} {D : Addr} {y z : V} {u r : Value} {Nx : Hp → Prop} {Q : Unit → Shared → Prop} (I : Inv X pins σ H s)
    (ru : RelV y u) (rz : RelV z r) (h : rSetD X (.ref D) y z H Nx) (hq : ∀ s' H', Inv X pins σ H' s' → Nx H' → Q () s') : wpAny (model X.prog X.w) X.A (dictSet D u r) Q E s := by
  obtain ⟨F, F', a, b, es, ds, kd, e1, at_, dr, rfl, hd, kt, hl, q⟩ := h
  cases e1
  obtain ⟨b', kk, eb, ek, hk⟩ := hd.keyAt I kt
  cases eb
  obtain ⟨xs, xr, dd, ne⟩ := at_.heap I dr
  cases ru
  have ro : (nestedKind X.prog X.w).room X.A := by
    have := hr.un
    show X.A.units + 8 < cLine
    omega
  refine wpAny_dictSet_heap (hsz := by rw [← xr.length]; exact hl) ro hk dd fun h' dd' hs => ?_
  have he : ∃ q, h'.get? D = some q := let ⟨q, _, _, hq, _⟩ := dd'; ⟨q, hq⟩
  obtain ⟨oo, doo⟩ := to_dictObj (xr.put rz) dd' ne
  refine hq _ _ (d_write I ?_ hs he (ext_ok doo)) (q kk ek hk.2 oo)
  rcases at_ with ⟨_, e⟩ | ⟨_, e⟩ <;> (rw [e]; exact True.intro)
def tDcT (X : Cx) (wi : TI) (g : TG) (tt : TT) (tk tv : TE) (vs : List Nat) : TE := fun σ H Q => wi σ H fun J Ha => ∀ D, Ha D = none →
  ∃ W : Nat → Nat → Hp → Prop, (∃ m, W 0 m (upd Ha D (.dK []))) ∧ ∀ i m Hb, W i m Hb →
    (J.stop i Hb ∧ Q (.ref D) Hb) ∨
    (J.go i Hb ∧ ∃ Nx : Hp → Prop, (∀ Hc, Nx Hc → ∃ m', m' < m ∧ W (i + 1) m' Hc) ∧ ∀ x Hc, J.yld i Hb x Hc → g x (wipe σ vs) Hc fun σ2 Hd =>
      wipe σ2 vs = wipe σ vs ∧ tt σ2 Hd fun b He => if b = true then tk σ2 He fun y Hf => tv σ2 Hf fun z Hg => rSetD X (.ref D) y z Hg Nx else Nx He)
abbrev BlkP (X : Cx) (scope : Scope) (p : Cx → Prop) : Prop := ∀ (s : Shared) (H : Hp) (C : Addr) (cl : List (Str × Addr)) (fp : List Addr), p (X.blk s H scope (compEnvC scope cl C X.env) fp)
theorem dcT_core {k : Nat} {pins : List (Addr × Obj)} {s : Shared} {σ : L2.St} {H : Hp} {Q : VK} {kx vx tg iter : Expr} {ifs : List Expr} {scope : Scope} {own : List (Str × Nat)} {pos pos' : Pos} {wi : TI} {g : TG} {tt : TT} {tk tv : TE}
    {use : Option (Value → Sem Unit)} {Qf : Value → Shared → Prop} (hr : Room k X.A) (hc : X.calm = true) (hN : X.N.Nodup) (I : Inv X pins σ H s) (hi : PI X tg iter wi) (ok : BlkOk X.N X.env.scope scope own)
    (hg : BlkP X scope fun B => PG B tg g) (ht : BlkP X scope fun B => PTs B ifs tt) (hk : BlkP X scope fun B => PE B kx tk) (he : BlkP X scope fun B => PE B vx tv) (hs : ∀ x, foldedSetIterable iter X.env x = pure x)
    (h : tDcT X wi g tt tk tv (own.map (·.2)) σ H Q)
    (fin : ∀ D C s' m H', Inv X pins σ H' s' → Q (.ref D) H' → s'.heap.Ns C m → FpOk X pins H' C → compPost (model X.prog X.w) X.A X.xe use Qf (.ref D) C (.ok .next) s') :
    wpAny (model X.prog X.w) X.A (comprehension (.DictComp kx vx [⟨tg, iter, ifs, 0⟩] scope pos) scope X.env pos' newDict false (eval iter X.env) use) Qf X.xe s := by
  have free : ∀ y ∈ scope.names, y.2 = .free → ∃ c, X.env.cells.lookup y.1 = some c := fun y hy e => (ok.free y hy e).elim (fun q => I.ok.has _ (.inl q)) fun q => I.ok.has _ (.inr q)
  refine wpAny_comprehension_free (use := use) rfl hs (closure_ok free) ok.kind (fun y hy e => by rw [ok.uniq y hy, e]) (thn (hi.run pins s σ H _ I h) fun xv sA hx => thn hx fun itv sB hB => ?_)
  obtain ⟨it, fp, tn, J, Ha, rfl, IB, T, tB, fB, turns⟩ := hB
  refine wpAny_newObj_type (newEnv_comp ?_)
  generalize hD : sB.heap.objs.size = D
  have newD : Ha D = none := IB.hok.fresh (Nat.le_of_eq hD)
  obtain ⟨W, ⟨m0, w0⟩, turn⟩ := turns D newD
  generalize eC : ({ sB with heap := sB.heap.push { cls := .type "dict", data := .dict #[] } } : Shared) = sC
  have hC : sC.heap = sB.heap.push { cls := .type "dict", data := .dict #[] } := by rw [← eC]
  have IC : Inv X pins σ (upd Ha D (.dK [])) sC := by
    rw [← eC]
    refine IB.laid (t' := sB.toks) (fun b o e => Heap.get?_push_of_some _ e) (Nat.le_of_eq hD) ?_
    rw [← hD]
    exact dk_empty sB.heap IB.big
  have small : ∀ b ∈ fp, b < sB.heap.objs.size := fun b hb => by
    obtain ⟨o, e, _⟩ := T.obj _ _ tB b hb
    exact Heap.lt_size e
  have fC : ∀ b ∈ fp, FpOk X pins (upd Ha D (.dK [])) b ∧ b < sC.heap.objs.size := fun b hb => by
    have l := small b hb
    obtain ⟨p, q⟩ := fB b hb
    refine ⟨⟨?_, q⟩, by rw [hC, Heap.size_push]; exact Nat.lt_succ_of_lt l⟩
    rw [upd_ne (fun z => by rw [z, ← hD] at l; exact Nat.lt_irrefl _ l)]
    exact p
  have tC : tn 0 sC.heap := T.keep _ _ _ tB fun b _ o e => by rw [hC]; exact Heap.get?_push_of_some _ e
  have start := block_start IC ok hN fC
  generalize hcl : cellsFrom (sC.heap.objs.size + 1) scope.names (cloFrom X.env.cells scope.names []) = cl at start ⊢
  have wg := hg sC (upd Ha D (.dK [])) sC.heap.objs.size cl fp
  have wt := ht sC (upd Ha D (.dK [])) sC.heap.objs.size cl fp
  have wk := hk sC (upd Ha D (.dK [])) sC.heap.objs.size cl fp
  have wv := he sC (upd Ha D (.dK [])) sC.heap.objs.size cl fp
  show codeAny _ _ (.compStart (.DictComp kx vx [⟨tg, iter, ifs, 0⟩] scope pos) 0 (.ref it) (.ref D) (compEnvC scope cl sC.heap.objs.size X.env)) (compPost _ X.A X.xe use Qf (.ref D) sC.heap.objs.size) { sC with heap := pushCells (sC.heap.push { cls := .type "dict", data := .dict #[] }) scope.names }
  have nfp : ∀ b ∈ fp, (upd Ha D (.dK [])) b = none := fun b hb => (fC b hb).1.1
  generalize hce : compEnvC scope cl sC.heap.objs.size X.env = ce at start wg wt wk wv ⊢
  have locs : ce.locals = sC.heap.objs.size := by rw [← hce]; rfl
  generalize hHC : upd Ha D (.dK []) = HC at IC start wg wt wk wv w0 nfp fC
  generalize hsD : ({ sC with heap := pushCells (sC.heap.push { cls := .type "dict", data := .dict #[] }) scope.names } : Shared) = sD at start ⊢
  have tD : tn 0 sD.heap := T.keep _ _ _ tC fun b _ o e => by rw [← hsD]; exact pushCells_keeps _ _ _ _ (Heap.get?_push_of_some _ e)
  have fps : ∀ {σ' : L2.St} {H' : Hp} {s' : Shared}, Inv (X.blk sC HC scope ce fp) [] σ' H' s' → (∀ b ∈ fp, H' b = none) → ∀ b ∈ fp, FpOk (X.blk sC HC scope ce fp) [] H' b := fun {σ' H' s'} J' hn b hb =>
    ⟨hn b hb, (J'.ok.exf b hb).1, J'.ok.exfs b hb, .inl hb, fun x c e => (J'.ok.exf b hb).2 x c e, fun p hp => absurd (show p ∈ ([] : List (Addr × Obj)) ++ [] from hp) (by simp)⟩
  have loop : codeAny (model X.prog X.w) X.A (.compLoop (.DictComp kx vx [⟨tg, iter, ifs, 0⟩] scope pos) 0 (.ref it) (.ref D) ce) (compPost (model X.prog X.w) X.A X.xe use Qf (.ref D) sC.heap.objs.size) sD := by
    refine compLoop_anyD (fun n s' => ∃ i H', Inv (X.blk sC HC scope ce fp) [] (wipe σ (own.map (·.2))) H' s' ∧ tn i s'.heap ∧ (∀ b ∈ fp, H' b = none) ∧ W i n H') ?_ m0 ⟨0, HC, start, tD, nfp, w0⟩
    rintro n s5 ⟨i, H5, I5, t5, n5, w5⟩
    rcases turn i n H5 w5 with ⟨stop, qq⟩ | ⟨go, Nx, hNx, step⟩
    · refine thnF (T.done (X.blk sC HC scope ce fp) rfl rfl rfl hc i [] s5 _ H5 (fun _ _ => False) I5 (fps I5 n5) t5 stop) fun r s6 ⟨e6, I6⟩ => ?_
      subst e6
      have nC : H5 sC.heap.objs.size = none := by
        have z : H5 ce.locals = none := I6.free
        rwa [locs] at z
      have back : Inv X pins σ H5 s6 := IC.call' (ch := fp) I6.os I6.base I6.hok I6.bare fun b hb =>
        let q := (fC b hb).1.2
        ⟨q.2.2.1, q.1, q.2.2.2.1, q.2.2.2.2⟩
      obtain ⟨m, hn, _⟩ := I6.loc
      have hn' : s6.heap.Ns ce.locals m := hn
      rw [locs] at hn'
      exact fin D sC.heap.objs.size s6 m H5 back qq hn' (IC.fpOk (Nat.le_refl _) nC)
    · refine thnF (T.item (X.blk sC HC scope ce fp) rfl rfl rfl hc i [] s5 _ H5 (fun _ _ => False) I5 (fps I5 n5) t5 go) fun r s6 ⟨u, e6, h6⟩ => ?_
      subst e6
      refine thnF h6 fun _ s7 ⟨x, H7, I7, r7, y7, t7, n7⟩ => ?_
      refine thnF (wg.run _ s7 _ H7 x u _ (I7.pinned (fps I7 n7) (T.obj _ _ t7)) r7 (step x H7 y7)) fun _ s8 ⟨σ8, H8, I8, hw8, q8⟩ => ?_
      refine thnF (wt.run _ s8 σ8 H8 _ I8 q8) fun b s9 ⟨H9, I9, q9⟩ => ?_
      have turned : ∀ {s' : Shared} {H' : Hp}, Inv (X.blk sC HC scope ce fp) ([] ++ pinsAt fp s7.heap) σ8 H' s' → Nx H' →
          ∃ m, m < n ∧ ∃ i H', Inv (X.blk sC HC scope ce fp) [] (wipe σ (own.map (·.2))) H' s' ∧ tn i s'.heap ∧ (∀ b ∈ fp, H' b = none) ∧ W i m H' := fun {s' H'} J' nx => by
        obtain ⟨m', hm, w'⟩ := hNx H' nx
        have pinned : ∀ b ∈ fp, ∀ o, s7.heap.get? b = some o → s'.heap.get? b = some o ∧ H' b = none := fun b hb o e =>
          have z := J'.pin (b, o) (List.mem_append_right _ (List.mem_append_right _ (mem_pinsAt hb e)))
          ⟨z.1, z.2.1⟩
        refine ⟨m', hm, i + 1, H', (J'.unpinned (pins := [])).weak (by rw [← hw8, wipe_length]) (fun j v e => ?_), T.keep _ _ _ t7 fun b hb o e => (pinned b hb o e).1, fun b hb => ?_, w'⟩
        · rw [← hw8] at e
          exact (wipe_some e).1
        · obtain ⟨o, e, _⟩ := T.obj _ _ t7 b hb
          exact (pinned b hb o e).2
      cases b with
      | false => exact turned I9 q9
      | true =>
        refine thnF (wk.run _ s9 σ8 H9 _ I9 q9) fun ku s10 ⟨yk, H10, I10, r10, q10⟩ => ?_
        refine thnF (wv.run _ s10 σ8 H10 _ I10 q10) fun vu s11 ⟨yv, H11, I11, r11, q11⟩ => ?_
        exact row_in (X := X.blk sC HC scope ce fp) (k := k) hr I11 r10 r11 q11 fun s12 H12 I12 nx => turned I12 nx
  exact codeAny_compStart_dict loop (T.self X.A 0 _ _ _ tD loop)
end
def dcRow (acc : List (PyData × PyData)) (k : List (PyData × PyData) → Rs (List (PyData × PyData))) : SV → SV → Rs (List (PyData × PyData))
  | .d kd, .d d => if (keyT kd && tupKeys acc && decide (acc.length ≤ sizeLine)) = true then k (dput acc kd d) else .bad
  | _, _ => .bad
def dcF (g : GM) (tt : TMt) (tk tv : EM) (vs : List Nat) (fr : Fr) : List SV → Store → List (PyData × PyData) → Rs (List (PyData × PyData))
  | [], S, acc => .ok acc S
  | x :: xs, S, acc => match g x (wipeF fr vs) with
    | none => .bad
    | some fr1 => (noX (tt fr1 S)).bind fun b S1 => if b = true then (noX (tk fr1 S1)).bind fun y S2 => (noX (tv fr1 S2)).bind fun z S3 => dcRow acc (dcF g tt tk tv vs fr xs S3) y z
      else dcF g tt tk tv vs fr xs S1 acc
def eDc (it : AM) (g : GM) (tt : TMt) (tk tv : EM) (vs : List Nat) : EM := fun fr S => (it fr S).bind fun xs S1 => (dcF g tt tk tv vs fr xs S1 []).bind fun ds S2 => .ok (.d (.dict ds)) S2
section
variable {X : Cx} {W : WX} {O O1 : Own} {σ : L2.St} {H : Hp} {Q : VK} {it : AM} {g : GM} {tt : TMt} {tk tv : EM} {vs ts : List Nat}
theorem dc_read (hsub : ∀ k ∈ ts, k ∈ vs) (h : tN (.of X) W O (eDc it g tt tk tv vs) σ H Q) :
    tDcT X (tIs (.of X) W O it) (tG (.of X) O O1 ts g) (tT (.of X) WF O1 tt) (tM (.of X) WF O1 tk) (tM (.of X) WF O1 tv) vs σ H Q := by
  obtain ⟨fr, S, G, R, h⟩ := h
  refine ⟨fr, S, G, R, h.split fun xs S1 J H1 G1 R1 st1 J1 h1 => fun D hD => ?_⟩
  obtain ⟨B0, st0⟩ := R1.base.newT (o := .dK []) hD
  obtain ⟨_, nr0, nf0⟩ := R1.base.new0 hD
  have hgood : dcF g tt tk tv vs fr xs S1 [] ≠ .bad := fun e => h1.good (by rw [e]; rfl)
  let Pv : Nat → Hp → Prop := fun i H' => ∃ S' G' acc, Rel (.of X) O σ H' fr S' G' ∧ Stp G1 H1 G' H' ∧ Tmp (.of X) H1 D (.d (.dict acc)) G' H' ∧ dcF g tt tk tv vs fr xs S1 [] = dcF g tt tk tv vs fr (xs.drop i) S' acc
  refine ⟨fun i n H' => n = xs.length - i ∧ i ≤ xs.length ∧ Pv i H', ⟨xs.length, by omega, by omega, S1, G1, [], R1.step st0 B0, st0, ⟨hD, nf0, nr0, .inr (.inl ⟨[], [], rfl, upd_same, .nil, .nil⟩)⟩, by rw [List.drop_zero]⟩, ?_⟩
  rintro i n H2 ⟨rfl, hle, S2, G2, acc, R2, st2, t2, eq2⟩
  by_cases hlt : i < xs.length
  · right
    have hd : xs.drop i = xs[i] :: xs.drop (i + 1) := List.drop_eq_getElem_cons hlt
    obtain ⟨_, it1⟩ := J1 S2 G2 H2 R2.base st2
    obtain ⟨go, yld⟩ := it1 i xs[i] (List.getElem?_eq_getElem hlt)
    refine ⟨go, Pv (i + 1), fun H' q => ⟨_, by omega, rfl, by omega, q⟩, fun u H3 y => ?_⟩
    obtain ⟨B3, st3, r3⟩ := yld u H3 y
    have R3 : Rel (.of X) O σ H3 fr S2 G2 := R2.step st3 B3
    have t3 := t2.step R2.base st3
    have st13 := st2.trans st3
    rw [hd] at eq2
    cases q : g xs[i] (wipeF fr vs) with
    | none => exact (hgood (by rw [eq2]; simp [dcF, q])).elim
    | some fr1 =>
      have e1 : dcF g tt tk tv vs fr (xs[i] :: xs.drop (i + 1)) S2 acc = (noX (tt fr1 S2)).bind fun b S1 => if b = true then (noX (tk fr1 S1)).bind fun y S2 => (noX (tv fr1 S2)).bind fun z S3 => dcRow acc (dcF g tt tk tv vs fr (xs.drop (i + 1)) S3) y z
        else dcF g tt tk tv vs fr (xs.drop (i + 1)) S1 acc := by simp only [dcF, q]
      rw [e1] at eq2
      refine ⟨xs[i], wipeF fr vs, S2, G2, fr1, R3.wipe vs, r3, q, fun σ4 R4 o4 => ⟨wipe_out o4 hsub, fr1, S2, G2, R4, ?_⟩⟩
      refine Pst.ofX (fun e => hgood (by rw [eq2, e]; rfl)) fun b S5 eb b' H5 G5 R5 st5 ebb => ?_
      subst ebb
      rw [eb] at eq2
      replace eq2 : dcF g tt tk tv vs fr xs S1 [] = if b = true then (noX (tk fr1 S5)).bind fun y S2 => (noX (tv fr1 S2)).bind fun z S3 => dcRow acc (dcF g tt tk tv vs fr (xs.drop (i + 1)) S3) y z
        else dcF g tt tk tv vs fr (xs.drop (i + 1)) S5 acc := eq2
      have RO5 : Rel (.of X) O σ H5 fr S5 G5 := R3.step st5 R5.base
      have t5 := t3.step R3.base st5
      have st15 := st13.trans st5
      cases b with
      | false =>
        rw [if_neg Bool.false_ne_true] at eq2 ⊢
        exact ⟨S5, G5, acc, RO5, st15, t5, eq2⟩
      | true =>
        rw [if_pos rfl] at eq2 ⊢
        refine ⟨fr1, S5, G5, R5, Pst.ofX (fun e => hgood (by rw [eq2, e]; rfl)) fun y S6 ey w H6 G6 R6 st6 ry => ?_⟩
        rw [ey] at eq2
        replace eq2 : dcF g tt tk tv vs fr xs S1 [] = (noX (tv fr1 S6)).bind fun z S3 => dcRow acc (dcF g tt tk tv vs fr (xs.drop (i + 1)) S3) y z := eq2
        have RO6 : Rel (.of X) O σ H6 fr S6 G6 := RO5.step st6 R6.base
        have t6 := t5.step RO5.base st6
        have st16 := st15.trans st6
        refine ⟨fr1, S6, G6, R6, Pst.ofX (fun e => hgood (by rw [eq2, e]; rfl)) fun z S7 ez v H7 G7 R7 st7 rz => ?_⟩
        rw [ez] at eq2
        replace eq2 : dcF g tt tk tv vs fr xs S1 [] = dcRow acc (dcF g tt tk tv vs fr (xs.drop (i + 1)) S7) y z := eq2
        have RO7 : Rel (.of X) O σ H7 fr S7 G7 := RO6.step st7 R7.base
        have t7 := t6.step RO6.base st7
        have st17 := st16.trans st7
        have ry7 := R6.base.rps st7 ry
        match y, z, ry7, rz, eq2 with
        | .obj _, _, _, _, eq2 => exact (hgood eq2).elim
        | .scr _, _, _, _, eq2 => exact (hgood eq2).elim
        | .d _, .obj _, _, _, eq2 => exact (hgood eq2).elim
        | .d _, .scr _, _, _, eq2 => exact (hgood eq2).elim
        | .d kd, .d d, ry7, rz, eq2 =>
          replace eq2 : dcF g tt tk tv vs fr xs S1 [] = if (keyT kd && tupKeys acc && decide (acc.length ≤ sizeLine)) = true then dcF g tt tk tv vs fr (xs.drop (i + 1)) S7 (dput acc kd d) else .bad := eq2
          by_cases hz : (keyT kd && tupKeys acc && decide (acc.length ≤ sizeLine)) = true
          · rw [if_pos hz] at eq2
            simp only [Bool.and_eq_true, decide_eq_true_eq] at hz
            obtain ⟨⟨kt, tk⟩, hl⟩ := hz
            obtain ⟨es, at_, dr⟩ := t7.cont.dAt tk
            obtain ⟨b, rfl⟩ : ∃ b, w = .ref b := by
              cases kd with
              | tuple xs =>
                cases (show Rp (.of X) G7.F H7 (.tuple xs) w from ry7) with
                | tup _ _ => exact ⟨_, rfl⟩
              | _ => simp [keyT, isTup] at kt
            refine ⟨_, _, D, b, es, acc, kd, rfl, at_, dr, rfl, ry7, kt, by rw [← Paired.length dr]; exact hl, fun k ek dk oo => ?_⟩
            obtain ⟨R8, st8, k8⟩ := R1.tmpWrite (o := .ext (dictObj X.w D (esPut es k b v) oo)) RO7 st17 t7
            obtain ⟨p1, p2, p3⟩ := (DR.put (DR.keep k8 dr) ek dk (Rp.keep k8 ry7) (Rp.keep k8 rz)).parts
            exact ⟨S7, G7, dput acc kd d, R8, st8, ⟨hD, t7.nf, t7.nr, .inr (.inr ⟨_, _, _, rfl, upd_same, p1, p2, p3⟩)⟩, eq2⟩
          · rw [if_neg hz] at eq2
            exact (hgood eq2).elim
  · left
    have e : i = xs.length := by omega
    subst e
    rw [List.drop_length] at eq2
    have eq3 : dcF g tt tk tv vs fr xs S1 [] = .ok acc S2 := eq2
    refine ⟨(J1 S2 G2 H2 R2.base st2).1, ?_⟩
    rw [eq3] at h1
    exact h1.ok _ S2 rfl _ H2 G2 R2 st2 ⟨D, rfl, ⟨st1.there D hD, t2.nf, t2.nr, t2.cont⟩⟩
end
section
variable {X : Cx} {W : WX} {L O O1 : Own}
theorem sw_trueD {kx vx : Expr} {gs : List Comprehension} {scope : Scope} {pos py : Pos} {y : Str} {l : Nat} {env : Env} (hk : env.scope.kind = .function) (hy : env.scope.names.lookup y = some .local) (hl : (py.line == pos.line) = true)
    (ha : (scope.names.any fun (n, k) => n == y && (k == .local || k == .cell)) = false) : swapsWith (.DictComp kx vx gs scope pos) (some (.Name y py)) l env = pure true := by
  have e : swapsWith (.DictComp kx vx gs scope pos) (some (.Name y py)) l env = swapsWith (.ListComp kx gs scope pos) (some (.Name y py)) l env := rfl
  rw [e]
  exact sw_true hk hy hl ha
theorem ps_setDcT {k i : Nat} {y : Str} {py : Pos} {kx vx tg iter : Expr} {ifs : List Expr} {scope : Scope} {own : List (Str × Nat)} {pos spos : Pos} {wi : TI} {g : TG} {tt : TT} {tk tv : TE} (hr : Room k X.A) (hc : X.calm = true) (hN : X.N.Nodup)
    (hy : X.N[i]? = some y) (hyl : X.env.scope.names.lookup y = some .local) (hsw : swapsWith (.DictComp kx vx [⟨tg, iter, ifs, 0⟩] scope pos) (some (.Name y py)) spos.line X.env = pure true) (hi : PI X tg iter wi) (ok : BlkOk X.N X.env.scope scope own)
    (hg : BlkP X scope fun B => PG B tg g) (ht : BlkP X scope fun B => PTs B ifs tt) (hk : BlkP X scope fun B => PE B kx tk) (he : BlkP X scope fun B => PE B vx tv) (hs : ∀ x, foldedSetIterable iter X.env x = pure x := by intro _; rfl) :
    PS X (.Assign [.Name y py] (.DictComp kx vx [⟨tg, iter, ifs, 0⟩] scope pos) spos) (tAsg (tDcT X wi g tt tk tv (own.map (·.2))) (gName i)) := ⟨fun pins s σ H D I h => by
  rw [exec_Assign_Name_used _ _ _ _ hsw]
  have h : tDcT X wi g tt tk tv (own.map (·.2)) σ H (fun x H1 => gName i x σ H1 D.nx) := h
  refine wpAny_bind (wpAny_standAt (wpAny_bind (wpAny_bind (thn (dcT_core (use := some (assign (.Name y py) X.env)) (Qf := fun _ s' => SP X pins D .next s') hr hc hN I hi ok hg ht hk he hs h fun L C s' m H' J q hn f => ?_) fun _ s' hq => wpAny_pure (wpAny_pure hq)))))
  show wpAny _ _ (assign (.Name y py) X.env (.ref L)) _ _ _
  obtain ⟨f0, f1, f2, f3, f4, f5⟩ := f
  refine wpAny_assign_Name (store_ok2 (v := V.ref L) J hN hy (.inl hyl) rfl (fun s2 I2 ⟨a, sb, ha⟩ => ?_) (.inr hyl))
  have ne : C ≠ a := ha.elim (fun z => by rw [z]; exact f1) fun z e => f4 y a z e.symm
  refine ⟨m, hn.sameBut sb ne, fun h3 sb3 => ?_⟩
  exact ⟨_, H', I2.turned (t' := s2.toks) (fun b o hb e => (sb3.2 b hb).trans e) f0 f1 f3 f4 f5, q⟩⟩
theorem cs_dcSet {k : Nat} (i : Nat) {y : Str} {py : Pos} {kx vx tg iter : Expr} {ifs : List Expr} {scope : Scope} {own : List (Str × Nat)} {pos spos : Pos} {it : AM} {g : GM} {tt : TMt} {tk tv : EM} {ts : List Nat} (hr : Room k X.A) (hc : X.calm = true) (hN : X.N.Nodup)
    (hsw : swapsWith (.DictComp kx vx [⟨tg, iter, ifs, 0⟩] scope pos) (some (.Name y py)) spos.line X.env = pure true) (hi : CIs X W O tg iter it) (ok : BlkOk X.N X.env.scope scope own)
    (hg : BlkP X scope fun B => CG B O tg g O1 ts) (ht : BlkP X scope fun B => PTs B ifs (tT (.of X) WF O1 tt))
    (hk : BlkP X scope fun B => CE B WF O1 kx tk) (he : BlkP X scope fun B => CE B WF O1 vx tv) (hy : X.N[i]? = some y := by rfl) (hyl : X.env.scope.names.lookup y = some .local := by rfl)
    (hsub : (ts.all fun k => (own.map (·.2)).contains k) = true := by rfl) (hs : ∀ x, foldedSetIterable iter X.env x = pure x := by intro _; rfl) :
    CS X W L O (.Assign [.Name y py] (.DictComp kx vx [⟨tg, iter, ifs, 0⟩] scope pos) spos) (sAsg (gSet i) (fE (eDc it g tt tk tv (own.map (·.2))))) (O.set i false) :=
  psI (ps_setDcT (g := tG (.of X) O O1 ts g) (tt := tT (.of X) WF O1 tt) (tk := tM (.of X) WF O1 tk) (tv := tM (.of X) WF O1 tv) hr hc hN hy hyl hsw hi ok hg ht hk he hs) fun D σ H h => dc_read (fun k hk => by simpa using List.all_eq_true.mp hsub k hk) (tN_of_tM (set_read h))
end
end PD
namespace PD
open PySem PySem.Spec PyProof.Rows L2
@[irreducible] def Rs.sat {α : Type} (r : Rs α) (Q : α → Store → Prop) (X : Exc → Store → Prop) : Prop := match r with
  | .ok a S => Q a S
  | .exc x S => X x S
  | .bad => False
abbrev NoX : Exc → Store → Prop := fun _ _ => False
structure Po where
  nx : Fr → Store → Prop
  bk : Fr → Store → Prop
  ct : Fr → Store → Prop
  rt : SV → Store → Prop
  ex : Exc → Store → Prop
@[irreducible] def SR.sat (r : SR) (p : Po) : Prop := match r with
  | .nx fr S => p.nx fr S
  | .bk fr S => p.bk fr S
  | .ct fr S => p.ct fr S
  | .rt v S => p.rt v S
  | .exc x _ S => p.ex x S
  | .bad => False
section
variable {α β : Type} {Q Q' : α → Store → Prop} {X X' : Exc → Store → Prop} {a : α} {S : Store} {r : Rs α} {fr : Fr} {p p' : Po}
theorem sat_ok : (Rs.ok a S).sat Q X = Q a S := by unfold Rs.sat; rfl
theorem sat_exc {x : Exc} : (Rs.exc x S : Rs α).sat Q X = X x S := by unfold Rs.sat; rfl
theorem sat_bad : (Rs.bad : Rs α).sat Q X = False := by unfold Rs.sat; rfl
theorem sat_bind {f : α → Store → Rs β} {Q : β → Store → Prop} : (r.bind f).sat Q X = r.sat (fun a S => (f a S).sat Q X) X := by
  cases r with
  | ok a S =>
    rw [sat_ok]
    rfl
  | exc x S =>
    rw [sat_exc]
    show (Rs.exc x S : Rs β).sat Q X = _
    rw [sat_exc]
  | bad =>
    rw [sat_bad]
    show (Rs.bad : Rs β).sat Q X = _
    rw [sat_bad]
theorem Rs.sat.mono (h : r.sat Q X) (hq : ∀ a S, Q a S → Q' a S) (hx : ∀ x S, X x S → X' x S) : r.sat Q' X' := by
  cases r with
  | ok a S =>
    rw [sat_ok] at h ⊢
    exact hq a S h
  | exc x S =>
    rw [sat_exc] at h ⊢
    exact hx x S h
  | bad =>
    rw [sat_bad] at h
    exact h.elim
theorem Rs.sat.on (h : r.sat Q NoX) (hq : ∀ a S, Q a S → Q' a S) : r.sat Q' X := h.mono hq fun _ _ z => z.elim
theorem Rs.sat.ex (h : r.sat Q NoX) : ∃ a S, r = .ok a S ∧ Q a S := by
  cases r with
  | ok a S =>
    rw [sat_ok] at h
    exact ⟨a, S, rfl, h⟩
  | exc x S =>
    rw [sat_exc] at h
    exact h.elim
  | bad =>
    rw [sat_bad] at h
    exact h.elim
theorem sat_of (h : Q a S) : (Rs.ok a S).sat Q X := by
  rw [sat_ok]
  exact h
theorem sat_if {c : Prop} [Decidable c] {r : Rs α} : (if c then r else .bad).sat Q X = (c ∧ r.sat Q X) := by
  by_cases h : c
  · rw [if_pos h]
    simp [h]
  · rw [if_neg h, sat_bad]
    simp [h]
theorem ssat_nx : (SR.nx fr S).sat p = p.nx fr S := by unfold SR.sat; rfl
theorem ssat_bk : (SR.bk fr S).sat p = p.bk fr S := by unfold SR.sat; rfl
theorem ssat_ct : (SR.ct fr S).sat p = p.ct fr S := by unfold SR.sat; rfl
theorem ssat_rt {v : SV} : (SR.rt v S).sat p = p.rt v S := by unfold SR.sat; rfl
theorem ssat_exc {x : Exc} : (SR.exc x fr S).sat p = p.ex x S := by unfold SR.sat; rfl
theorem ssat_bad : SR.bad.sat p = False := by unfold SR.sat; rfl
theorem ssat_toS {f : α → Store → SR} : (r.toS fr f).sat p = r.sat (fun a S => (f a S).sat p) p.ex := by
  cases r with
  | ok a S =>
    rw [sat_ok]
    rfl
  | exc x S =>
    rw [sat_exc]
    show (SR.exc x fr S).sat p = _
    rw [ssat_exc]
  | bad =>
    rw [sat_bad]
    show SR.bad.sat p = _
    rw [ssat_bad]
theorem ssat_next {r : SR} {f : Fr → Store → SR} : (r.next f).sat p = r.sat { p with nx := fun fr S => (f fr S).sat p } := by
  cases r with
  | nx fr S =>
    rw [ssat_nx]
    rfl
  | bk fr S =>
    rw [ssat_bk]
    show (SR.bk fr S).sat p = _
    rw [ssat_bk]
  | ct fr S =>
    rw [ssat_ct]
    show (SR.ct fr S).sat p = _
    rw [ssat_ct]
  | rt v S =>
    rw [ssat_rt]
    show (SR.rt v S).sat p = _
    rw [ssat_rt]
  | exc x fr S =>
    rw [ssat_exc]
    show (SR.exc x fr S).sat p = _
    rw [ssat_exc]
  | bad =>
    rw [ssat_bad]
    show SR.bad.sat p = _
    rw [ssat_bad]
theorem ssat_if {c : Prop} [Decidable c] {r : SR} : (if c then r else .bad).sat p = (c ∧ r.sat p) := by
  by_cases h : c
  · rw [if_pos h]
    simp [h]
  · rw [if_neg h, ssat_bad]
    simp [h]
theorem SR.sat.mono {r : SR} (h : r.sat p) (h1 : ∀ fr S, p.nx fr S → p'.nx fr S) (h2 : ∀ fr S, p.bk fr S → p'.bk fr S) (h3 : ∀ fr S, p.ct fr S → p'.ct fr S) (h4 : ∀ v S, p.rt v S → p'.rt v S) (h5 : ∀ x S, p.ex x S → p'.ex x S) : r.sat p' := by
  cases r with
  | nx fr S =>
    rw [ssat_nx] at h ⊢
    exact h1 _ _ h
  | bk fr S =>
    rw [ssat_bk] at h ⊢
    exact h2 _ _ h
  | ct fr S =>
    rw [ssat_ct] at h ⊢
    exact h3 _ _ h
  | rt v S =>
    rw [ssat_rt] at h ⊢
    exact h4 _ _ h
  | exc x fr S =>
    rw [ssat_exc] at h ⊢
    exact h5 _ _ h
  | bad =>
    rw [ssat_bad] at h
    exact h.elim
theorem sat_ite {α : Type} {c : Prop} [Decidable c] {r r' : Rs α} {Q : α → Store → Prop} {X : Exc → Store → Prop} : (if c then r else r').sat Q X = if c then r.sat Q X else r'.sat Q X := by
  by_cases h : c
  · rw [if_pos h, if_pos h]
  · rw [if_neg h, if_neg h]
theorem ssat_ite {c : Prop} [Decidable c] {r r' : SR} {p : Po} : (if c then r else r').sat p = if c then r.sat p else r'.sat p := by
  by_cases h : c
  · rw [if_pos h, if_pos h]
  · rw [if_neg h, if_neg h]
theorem seq_sat {m n : SM} (mid : Fr → Store → Prop) (h : (m fr S).sat { p with nx := mid }) (k : ∀ fr S, mid fr S → (n fr S).sat p) : (sSeq m n fr S).sat p := by
  show ((m fr S).next fun fr1 S1 => n fr1 S1).sat p
  rw [ssat_next]
  exact h.mono k (fun _ _ h => h) (fun _ _ h => h) (fun _ _ h => h) fun _ _ h => h
abbrev no2 : Fr → Store → Prop := fun _ _ => False
abbrev retP (Q : SV → Store → Prop) (X : Exc → Store → Prop) : Po := ⟨fun _ S => Q (.d .none) S, no2, no2, Q, X⟩
theorem sat_body {N : Nat} {m : SM} {xs : List SV} {Q : SV → Store → Prop} : (bodyF N m xs S).sat Q X = (m (xs.map some ++ List.replicate (N - xs.length) none) S).sat (retP Q X) := by
  unfold bodyF
  cases m (xs.map some ++ List.replicate (N - xs.length) none) S with
  | nx fr S => rw [ssat_nx, sat_ok]
  | bk fr S => rw [ssat_bk, sat_bad]
  | ct fr S => rw [ssat_ct, sat_bad]
  | rt v S => rw [ssat_rt, sat_ok]
  | exc x fr S => rw [ssat_exc, sat_exc]
  | bad => rw [ssat_bad, sat_bad]
theorem ssat_for {g : GM} {m : SM} {p : Po} : ∀ {xs : List SV} {fr : Fr} {S : Store} (I : Nat → Fr → Store → Prop) (n : Nat), I n fr S →
    (∀ k x fr S, xs[k]? = some x → I (n + k) fr S → ∃ fr1, g x fr = some fr1 ∧ (m fr1 S).sat ⟨I (n + k + 1), p.nx, I (n + k + 1), p.rt, p.ex⟩) → (∀ fr S, I (n + xs.length) fr S → p.nx fr S) → (forF g m xs fr S).sat p
  | [], fr, S, I, n, h0, _, hf => by
    show (SR.nx fr S).sat p
    rw [ssat_nx]
    exact hf fr S h0
  | x :: xs, fr, S, I, n, h0, hs, hf => by
    obtain ⟨fr1, e, h⟩ := hs 0 x fr S rfl h0
    have go : ∀ fr2 S2, I (n + 1) fr2 S2 → (forF g m xs fr2 S2).sat p := fun fr2 S2 h2 => by
      refine ssat_for I (n + 1) h2 (fun k y fr S e h => ?_) fun fr S h => hf fr S ?_
      · rw [show n + 1 + k = n + (k + 1) by omega] at h ⊢
        exact hs (k + 1) y fr S (by simpa using e) h
      · rw [List.length_cons, show n + (xs.length + 1) = n + 1 + xs.length by omega]
        exact h
    have e1 : forF g m (x :: xs) fr S = (match m fr1 S with
        | .nx fr2 S2 => forF g m xs fr2 S2
        | .ct fr2 S2 => forF g m xs fr2 S2
        | .bk fr2 S2 => .nx fr2 S2
        | r => r) := by
      simp only [forF, e]
      all_goals rfl
    rw [e1]
    have h' : (m fr1 S).sat ⟨I (n + 1), p.nx, I (n + 1), p.rt, p.ex⟩ := h
    cases q : m fr1 S with
    | nx fr2 S2 =>
      rw [q, ssat_nx] at h'
      exact go fr2 S2 h'
    | ct fr2 S2 =>
      rw [q, ssat_ct] at h'
      exact go fr2 S2 h'
    | bk fr2 S2 =>
      rw [q, ssat_bk] at h'
      show (SR.nx fr2 S2).sat p
      rw [ssat_nx]
      exact h'
    | rt v S2 =>
      rw [q, ssat_rt] at h'
      show (SR.rt v S2).sat p
      rw [ssat_rt]
      exact h'
    | exc x fr2 S2 =>
      rw [q, ssat_exc] at h'
      show (SR.exc x fr2 S2).sat p
      rw [ssat_exc]
      exact h'
    | bad =>
      rw [q, ssat_bad] at h'
      exact h'.elim
theorem sat_comp {g : GM} {tt : TMt} {te : EM} {vs : List Nat} {fr : Fr} {Q : List PyData → Store → Prop} : ∀ {xs : List SV} {S : Store} {acc : List PyData} (I : Nat → Store → List PyData → Prop) (n : Nat), I n S acc →
    (∀ k x S acc, xs[k]? = some x → I (n + k) S acc → ∃ fr1, g x (wipeF fr vs) = some fr1 ∧ (tt fr1 S).sat (fun b S1 => if b = true then (te fr1 S1).sat (fun y S2 => ∃ d, y = .d d ∧ acc.length < sizeLine ∧ I (n + k + 1) S2 (acc ++ [d])) NoX else I (n + k + 1) S1 acc) NoX) →
    (∀ S acc, I (n + xs.length) S acc → Q acc S) → (compF g tt te vs fr xs S acc).sat Q X
  | [], S, acc, I, n, h0, _, hf => by
    show (Rs.ok acc S).sat Q X
    rw [sat_ok]
    exact hf S acc h0
  | x :: xs, S, acc, I, n, h0, hs, hf => by
    obtain ⟨fr1, e, h⟩ := hs 0 x S acc rfl h0
    have go : ∀ S2 acc2, I (n + 1) S2 acc2 → (compF g tt te vs fr xs S2 acc2).sat Q X := fun S2 acc2 h2 => by
      refine sat_comp I (n + 1) h2 (fun k y S acc e h => ?_) fun S acc h => hf S acc ?_
      · rw [show n + 1 + k = n + (k + 1) by omega] at h ⊢
        exact hs (k + 1) y S acc (by simpa using e) h
      · rw [List.length_cons, show n + (xs.length + 1) = n + 1 + xs.length by omega]
        exact h
    have e1 : compF g tt te vs fr (x :: xs) S acc = (noX (tt fr1 S)).bind fun b S3 => if b = true then (noX (te fr1 S3)).bind fun y S4 => match y with
          | .d d => if acc.length < sizeLine then compF g tt te vs fr xs S4 (acc ++ [d]) else .bad
          | _ => .bad
        else compF g tt te vs fr xs S3 acc := by
      simp only [compF, e]
      all_goals rfl
    rw [e1]
    obtain ⟨b, S1, eb, h1⟩ := h.ex
    rw [eb]
    cases b with
    | false =>
      rw [if_neg Bool.false_ne_true] at h1
      exact go S1 acc h1
    | true =>
      rw [if_pos rfl] at h1
      obtain ⟨y, S2, ey, d, rfl, hl, h2⟩ := h1.ex
      show ((noX (te fr1 S1)).bind _).sat Q X
      rw [ey]
      show (if acc.length < sizeLine then compF g tt te vs fr xs S2 (acc ++ [d]) else .bad).sat Q X
      rw [if_pos hl]
      exact go S2 _ h2
theorem comp_pure {g : GM} {te : EM} {vs : List Nat} {fr : Fr} {S : Store} {f : SV → PyData} : ∀ {xs : List SV} {acc : List PyData}, (∀ x ∈ xs, ∃ fr1, g x (wipeF fr vs) = some fr1 ∧ te fr1 S = .ok (.d (f x)) S) → acc.length + xs.length ≤ sizeLine →
    compF g bYes te vs fr xs S acc = .ok (acc ++ xs.map f) S
  | [], acc, _, _ => by simp [compF]
  | x :: xs, acc, h, hl => by
    obtain ⟨fr1, e, h1⟩ := h x List.mem_cons_self
    have hl' : acc.length < sizeLine := by
      rw [List.length_cons] at hl
      omega
    have e1 : compF g bYes te vs fr (x :: xs) S acc = compF g bYes te vs fr xs S (acc ++ [f x]) := by
      simp only [compF, e, bYes, noX, Rs.bind, h1, if_true, if_pos hl']
    rw [e1, comp_pure (fun y hy => h y (List.mem_cons_of_mem _ hy)) (by
      rw [List.length_cons] at hl
      simp
      omega)]
    simp
end
end PD
namespace PD
open PySem PySem.Spec PyProof.Rows L2
def m__law_deck_1 : SM := sRet (eA mkObj (aC (eNew (eLc (iSeq (eSl (eV 0) (oN) (oS (eC (.int 63))))) (gSet 1) (bYes) (eA1 absI (eV 1)) [1])) (aC (eC (.int 0)) (aN))))
def m__law_deck : SM := m__law_deck_1
def F__law_deck : FN := bodyF 2 m__law_deck
def m__law_draw_1 : SM := sPutO (e2 addV (e2 ixV (eV 0) (eC (.int 1))) (eC (.int 1))) (eV 0) (eC (.int 1))
def m__law_draw_2 : SM := sAsg (ggTup 2 (ggCons (gSet 2) (ggCons (gSet 3) (ggNil)))) (fE (eA mkTup (aC (eC (.int 0)) (aC (e1 negV (eC (.int 1))) (aN)))))
def m__law_draw_4 : SM := sAsg (gSet 3) (fE (e2 modV (eA1 intV (e2 ixV (eV 0) (eC (.int 1)))) (eA1 lenV (e2 ixV (eV 0) (eC (.int 0))))))
def m__law_draw_5 : SM := sAsg (gSet 2) (fE (e2 ixV (e2 ixV (eV 0) (eC (.int 0))) (eV 3)))
def m__law_draw_3 : SM := sIf (bB (e2 gtV (eA1 lenV (e2 ixV (eV 0) (eC (.int 0)))) (eC (.int 0)))) (sSeq m__law_draw_4 m__law_draw_5) (sNx)
def m__law_draw_7 : SM := sPutO (e2 divV (eA1 intV (eV 2)) (eV 1)) (e2 ixV (eV 0) (eC (.int 0))) (eV 3)
def m__law_draw_8 : SM := sRet (e2 modV (eA1 intV (eV 2)) (eV 1))
def m__law_draw_6 : SM := sIf (bB (e2 geV (eV 2) (e2 powV (eC (.int 10)) (eC (.int 18))))) (sSeq m__law_draw_7 m__law_draw_8) (sNx)
def m__law_draw_9 : SM := sAsg (gSet 4) (fE (e2 addV (e2 addV (e2 modV (eA1 intV (eV 2)) (eC (.int 2147483563))) (e2 mulV (eC (.int 8117)) (e2 ixV (eV 0) (eC (.int 1))))) (eC (.int 3))))
def m__law_draw_10 : SM := sRet (e2 modV (eA1 intV (e2 modV (eA1 intV (e2 powV (eV 4) (eC (.int 5)))) (eC (.int 2147483629)))) (eV 1))
def m__law_draw : SM := sSeq m__law_draw_1 (sSeq m__law_draw_2 (sSeq m__law_draw_3 (sSeq m__law_draw_6 (sSeq m__law_draw_9 m__law_draw_10))))
def F__law_draw : FN := bodyF 5 m__law_draw
def m__law_one_1 : SM := sRet (e2 ixV (eV 1) (eCall 2 F__law_draw (aC (eV 0) (aC (eA1 lenV (eV 1)) (aN)))))
def m__law_one : SM := m__law_one_1
def F__law_one : FN := bodyF 2 m__law_one
def cellsOb (cs : List Int) : Ob := .lst (cs.map fun i => SV.d (.int i))
def Deck (rest : Store) (n : Int) (S : Store) : Prop := ∃ (cs : List Int) (c : Int), S = cellsOb cs :: .lst [.obj 0, .d (.int c)] :: rest ∧ (∀ i ∈ cs, 0 ≤ i) ∧ 0 ≤ c ∧ c ≤ n
theorem Deck.mono {rest : Store} {n n' : Int} {S : Store} (h : Deck rest n S) (l : n ≤ n') : Deck rest n' S := by
  obtain ⟨cs, c, e, p, c0, c1⟩ := h
  exact ⟨cs, c, e, p, c0, by omega⟩
local macro_rules
  | `(tactic| walk_at "go") => `(tactic| simp only [sSeq, ssat_next, ssat_toS, ssat_nx, ssat_rt, ssat_bk, ssat_ct, ssat_bad, ssat_if, sat_ok, sat_bad, sat_exc, sat_bind, sat_if, sPutO, sAsg, fE, sIf, sNx, sRet, sDrop, sOwn, sApp, sExt, sPar, sFor, e1, e2, eV, eC, eA, eA1, aC, aN, eSl, oN, oS, eP, eM1, eIf, eCall, eJ, jC, jN, bB, bTr, bAnd, bOr, bNot, eAnd, eOr, eNot, bYes, iSeq, iA, ofG, ofO, gSet, ggNil, ggCons, ggTup, mkTup, mkLst, mkObj, asDs, asD, ownL,
      List.map_cons, List.map_nil, List.cons_append, List.nil_append, List.length_cons, List.length_nil, List.length_set, List.replicate, List.getElem?_cons_succ, List.getElem?_cons_zero, List.getElem?_nil, List.set_cons_succ, List.set_cons_zero, List.all_cons, List.all_nil, setAll, Option.map_some, Option.map_none, Option.bind_some, Option.bind_none,
      ixV, addV, subV, mulV, modV, divV, powV, negV, lenV, intV, absI, boolV, truthV, ltV, gtV, leV, geV, isV, isNone, L2.atI, ixN, Bool.false_xor, Bool.true_xor, Bool.not_true, Bool.not_false, Bool.and_true, Bool.true_and, Bool.and_false, Bool.false_and, decide_true, decide_false, decide_eq_true_eq, Bool.and_eq_true, if_true, if_false, reduceIte, ite_true, ite_false, true_and, and_true, Int.cast_ofNat_Int, Nat.reduceAdd, Nat.reduceSub, Nat.reduceLT, Int.reduceLT, Int.reduceLE, Int.reduceToNat, Nat.lt_add_one])
theorem draw_ok {rest : Store} {n many : Int} {S : Store} (D : Deck rest n S) (hn : n ≤ 1099511627776) (h0 : 0 < many) (h1 : many < 1073741824) :
    (F__law_draw [.obj 1, .d (.int many)] S).sat (fun v S' => ∃ k, v = .d (.int k) ∧ 0 ≤ k ∧ k < many ∧ Deck rest (n + 1) S') NoX := by
  obtain ⟨cs, c, rfl, pos, c0, c1⟩ := D
  unfold F__law_draw
  rw [sat_body]
  unfold m__law_draw
  have D1 : Deck rest (n + 1) (cellsOb cs :: .lst [.obj 0, .d (.int (c + 1))] :: rest) := ⟨cs, c + 1, rfl, pos, by omega, by omega⟩
  refine seq_sat (fun fr S => fr = [some (.obj 1), some (.d (.int many)), none, none, none] ∧ S = cellsOb cs :: .lst [.obj 0, .d (.int (c + 1))] :: rest) ?_ ?_
  · simp only [m__law_draw_1]
    walk_at "go"
  rintro _ _ ⟨rfl, rfl⟩
  refine seq_sat (fun fr S => fr = [some (.obj 1), some (.d (.int many)), some (.d (.int 0)), some (.d (.int (-1))), none] ∧ S = cellsOb cs :: .lst [.obj 0, .d (.int (c + 1))] :: rest) ?_ ?_
  · simp only [m__law_draw_2]
    walk_at "go"
    decide
  rintro _ _ ⟨rfl, rfl⟩
  refine seq_sat (fun fr S => ∃ cell at_ : Int, fr = [some (.obj 1), some (.d (.int many)), some (.d (.int cell)), some (.d (.int at_)), none] ∧ S = cellsOb cs :: .lst [.obj 0, .d (.int (c + 1))] :: rest ∧ 0 ≤ cell ∧ (0 < cell → 0 ≤ at_ ∧ at_ < cs.length)) ?_ ?_
  · simp only [m__law_draw_3, cellsOb]
    walk_at "go"
    rw [List.length_map]
    by_cases hc : 0 < (cs.length : Int)
    · rw [if_pos hc]
      simp only [m__law_draw_4]
      walk_at "go"
      rw [List.length_map]
      refine ⟨hc, ?_⟩
      have a0 : 0 ≤ (c + 1) % (cs.length : Int) := Int.emod_nonneg _ (by omega)
      have a1 : (c + 1) % (cs.length : Int) < cs.length := Int.emod_lt_of_pos _ hc
      simp only [m__law_draw_5, e2, eV, eC, ixV]
      walk_at "go"
      rw [List.length_map, if_pos a0, if_pos a1]
      walk_at "go"
      rw [List.getElem?_map, List.getElem?_eq_getElem (by omega)]
      walk_at "go"
      exact ⟨_, _, rfl, pos _ (List.getElem_mem _), fun _ => ⟨a0, a1⟩⟩
    · rw [if_neg hc, ssat_nx]
      exact ⟨0, -1, rfl, rfl, by omega, fun z => by omega⟩
  rintro _ _ ⟨cell, at_, rfl, rfl, p0, p1⟩
  refine seq_sat (fun fr S => fr = [some (.obj 1), some (.d (.int many)), some (.d (.int cell)), some (.d (.int at_)), none] ∧ S = cellsOb cs :: .lst [.obj 0, .d (.int (c + 1))] :: rest) ?_ ?_
  · simp only [m__law_draw_6]
    walk_at "go"
    refine ⟨by decide, ?_⟩
    by_cases hb : (10 : Int) ^ 18 ≤ cell
    · rw [if_pos hb]
      obtain ⟨a0, a1⟩ := p1 (by
        have : (0 : Int) < 10 ^ 18 := by decide
        omega)
      simp only [m__law_draw_7, cellsOb]
      walk_at "go"
      refine ⟨⟨h0, h1⟩, ?_⟩
      rw [List.length_map, if_pos a0, if_pos a1]
      simp only [m__law_draw_8]
      walk_at "go"
      refine ⟨h0, _, rfl, Int.emod_nonneg _ (by omega), Int.emod_lt_of_pos _ h0, cs.set at_.toNat (cell / many), c + 1, ?_, fun i hi => ?_, by omega, by omega⟩
      · unfold cellsOb
        rw [List.map_set]
      · rcases List.mem_or_eq_of_mem_set hi with q | q
        · exact pos i q
        · rw [q]
          exact Int.ediv_nonneg p0 (by omega)
    · rw [if_neg hb, ssat_nx]
      exact ⟨rfl, rfl⟩
  rintro _ _ ⟨rfl, rfl⟩
  refine seq_sat (fun fr S => ∃ mx : Int, fr = [some (.obj 1), some (.d (.int many)), some (.d (.int cell)), some (.d (.int at_)), some (.d (.int mx))] ∧ S = cellsOb cs :: .lst [.obj 0, .d (.int (c + 1))] :: rest ∧ mx.natAbs < 2 ^ 64) ?_ ?_
  · simp only [m__law_draw_9]
    walk_at "go"
    refine ⟨rfl, _, rfl, ?_⟩
    have q0 : 0 ≤ cell % 2147483563 := Int.emod_nonneg _ (by decide)
    have q1 : cell % 2147483563 < 2147483563 := Int.emod_lt_of_pos _ (by decide)
    omega
  rintro _ _ ⟨mx, rfl, rfl, hm⟩
  simp only [m__law_draw_10]
  walk_at "go"
  exact ⟨hm, h0, _, rfl, Int.emod_nonneg _ (by omega), Int.emod_lt_of_pos _ h0, D1⟩
theorem at_in {α : Type} {xs : List α} {k : Int} (h0 : 0 ≤ k) (h1 : k < xs.length) : ∃ x, x ∈ xs ∧ L2.atI xs k = some x := by
  refine ⟨xs[k.toNat]'(by omega), List.getElem_mem _, ?_⟩
  unfold L2.atI ixN
  rw [if_pos h0, if_pos h1]
  exact List.getElem?_eq_getElem (by omega)
theorem one_list {rest : Store} {n : Int} {S : Store} {ds : List PyData} (D : Deck rest n S) (hn : n ≤ 1099511627776) (h0 : ds ≠ []) (h1 : ds.length < 1073741824) :
    (F__law_one [.obj 1, .d (.list ds)] S).sat (fun v S' => ∃ d, d ∈ ds ∧ v = .d d ∧ Deck rest (n + 1) S') NoX := by
  unfold F__law_one
  rw [sat_body]
  simp only [m__law_one, m__law_one_1]
  walk_at "go"
  have hl : 0 < ds.length := List.length_pos_iff.mpr h0
  refine (draw_ok D hn (by omega) (by omega)).on fun v S' ⟨k, e, k0, k1, D'⟩ => ?_
  subst e
  obtain ⟨x, hx, e⟩ := at_in k0 k1
  simp only [L2.atI] at e
  show (match (ixN ds.length k).bind fun j => ds[j]? with | some d => Rs.ok (SV.d d) S' | none => Rs.bad).sat _ _
  rw [e]
  exact sat_of ⟨x, hx, rfl, D'⟩
theorem one_tuple {rest : Store} {n : Int} {S : Store} {ds : List PyData} (D : Deck rest n S) (hn : n ≤ 1099511627776) (h0 : ds ≠ []) (h1 : ds.length < 1073741824) :
    (F__law_one [.obj 1, .d (.tuple ds)] S).sat (fun v S' => ∃ d, d ∈ ds ∧ v = .d d ∧ Deck rest (n + 1) S') NoX := by
  unfold F__law_one
  rw [sat_body]
  simp only [m__law_one, m__law_one_1]
  walk_at "go"
  have hl : 0 < ds.length := List.length_pos_iff.mpr h0
  refine (draw_ok D hn (by omega) (by omega)).on fun v S' ⟨k, e, k0, k1, D'⟩ => ?_
  subst e
  obtain ⟨x, hx, e⟩ := at_in k0 k1
  simp only [L2.atI] at e
  show (match (ixN ds.length k).bind fun j => ds[j]? with | some d => Rs.ok (SV.d d) S' | none => Rs.bad).sat _ _
  rw [e]
  exact sat_of ⟨x, hx, rfl, D'⟩
theorem one_str {rest : Store} {n : Int} {S : Store} {z : Str} (D : Deck rest n S) (hn : n ≤ 1099511627776) (h0 : 0 < z.cps.size) (h1 : z.cps.size ≤ sizeLine) :
    (F__law_one [.obj 1, .d (.str z)] S).sat (fun v S' => ∃ c, c ∈ z.cps.toList ∧ v = .d (.str ⟨#[c]⟩) ∧ Deck rest (n + 1) S') NoX := by
  unfold F__law_one
  rw [sat_body]
  simp only [m__law_one, m__law_one_1]
  walk_at "go"
  have hz : z.length = z.cps.size := rfl
  have hl : z.length ≤ sizeLine := by rw [hz]; exact h1
  have hl2 : z.cps.toList.length = z.cps.size := by simp
  have hs : sizeLine = 16777216 := sizeLine_eq
  refine ⟨hl, (draw_ok D hn (by omega) (by omega)).on fun v S' ⟨k, e, k0, k1, D'⟩ => ?_⟩
  subst e
  obtain ⟨x, hx, e⟩ := at_in (xs := z.cps.toList) k0 (by rw [hl2, ← hz]; exact k1)
  simp only [L2.atI] at e
  show (match (ixN z.cps.toList.length k).bind fun j => z.cps.toList[j]? with | some c => if z.length ≤ sizeLine then Rs.ok (SV.d (.str ⟨#[c]⟩)) S' else .bad | none => Rs.bad).sat _ _
  rw [e]
  show (if z.length ≤ sizeLine then Rs.ok (SV.d (.str ⟨#[x]⟩)) S' else .bad).sat _ _
  rw [if_pos hl]
  exact sat_of ⟨x, hx, rfl, D'⟩
def absN (i : Int) : Int := if i < 0 then -i else i
theorem deck_ok (ns : List Int) (h : ns.length ≤ 63) : ∃ S, F__law_deck [.scr ns] [] = .ok (.obj 1) S ∧ Deck [] 0 S := by
  let cs : List Int := (cutI ns none (some 63)).map absN
  have hl : (cutI ns none (some 63)).length ≤ 63 := by
    unfold cutI
    rw [List.length_take, List.length_drop]
    omega
  have hc : compF (gSet 1) bYes (eA1 absI (eV 1)) [1] [some (.scr ns), none] (((cutI ns none (some 63)).map PyData.int).map SV.d) [] [] = .ok ([] ++ (((cutI ns none (some 63)).map PyData.int).map SV.d).map fun x => match x with
      | .d (.int i) => PyData.int (absN i)
      | _ => .none) [] := by
    refine comp_pure (fun x hx => ?_) (by
      rw [List.length_map, List.length_map]
      have : sizeLine = 16777216 := sizeLine_eq
      simp
      omega)
    rw [List.map_map, List.mem_map] at hx
    obtain ⟨i, _, rfl⟩ := hx
    exact ⟨_, rfl, rfl⟩
  rw [List.nil_append, List.map_map, List.map_map] at hc
  have e2 : (cutI ns none (some 63)).map (((fun x : SV => match x with
      | .d (.int i) => PyData.int (absN i)
      | _ => .none)) ∘ (SV.d ∘ PyData.int)) = cs.map PyData.int := by
    rw [List.map_map]
    rfl
  refine ⟨[cellsOb cs, .lst [.obj 0, .d (.int 0)]], ?_, cs, 0, rfl, fun i hi => ?_, by omega, by omega⟩
  · unfold F__law_deck bodyF
    have e1 : eLc (iSeq (eSl (eV 0) oN (oS (eC (.int 63))))) (gSet 1) bYes (eA1 absI (eV 1)) [1] [some (.scr ns), none] [] = .ok (.d (.list (cs.map .int))) [] := by
      show (compF (gSet 1) bYes (eA1 absI (eV 1)) [1] [some (.scr ns), none] (((cutI ns none (some 63)).map PyData.int).map SV.d) [] []).bind _ = _
      rw [List.map_map, hc, e2]
      rfl
    have e3 : m__law_deck [some (.scr ns), none] [] = .rt (.obj 1) [cellsOb cs, .lst [.obj 0, .d (.int 0)]] := by
      show (Rs.bind (Rs.bind (Rs.bind (eLc (iSeq (eSl (eV 0) oN (oS (eC (.int 63))))) (gSet 1) bYes (eA1 absI (eV 1)) [1] [some (.scr ns), none] []) _) _) _).toS _ _ = _
      rw [e1]
      show (mkObj [.obj 0, .d (.int 0)] [.lst ((cs.map PyData.int).map SV.d)]).toS _ _ = _
      unfold mkObj cellsOb
      rw [if_pos (by decide), List.map_map]
      rfl
    show (match m__law_deck [some (.scr ns), none] [] with | .rt v S' => Rs.ok v S' | .nx _ S' => .ok (.d .none) S' | .exc x _ S' => .exc x S' | _ => .bad) = _
    rw [e3]
  · obtain ⟨j, _, rfl⟩ := List.mem_map.mp hi
    unfold absN
    split <;> omega
end PD
namespace PD
open PySem PySem.Spec PyProof.Rows L2
def Tx (n : Nat) (s : Str) : Prop := s.length ≤ n ∧ ∀ c ∈ s.cps.toList, c < 1114112
theorem Tx.mono {n m : Nat} {s : Str} (h : Tx n s) (l : n ≤ m) : Tx m s := ⟨Nat.le_trans h.1 l, h.2⟩
theorem Tx.app {n m : Nat} {s t : Str} (h : Tx n s) (k : Tx m t) : Tx (n + m) (s ++ t) := by
  refine ⟨by rw [Str.length_append]; exact Nat.add_le_add h.1 k.1, fun c hc => ?_⟩
  rw [Str.cps_append, Array.toList_append, List.mem_append] at hc
  exact hc.elim (h.2 c) (k.2 c)
theorem Tx.nil {n : Nat} : Tx n Str.empty := ⟨Nat.zero_le _, fun c hc => by simp [Str.empty] at hc⟩
theorem Tx.one {n c : Nat} (h : c < 1114112) (hn : 1 ≤ n) : Tx n ⟨#[c]⟩ := ⟨hn, fun d hd => by simp at hd; omega⟩
theorem Tx.of (s : String) : Tx s.length (Str.ofString s) := by
  rw [Str.ofString_eq_toList]
  refine ⟨by simp [Str.length, String.length], fun c hc => ?_⟩
  obtain ⟨d, _, rfl⟩ := List.mem_map.mp (by simpa using hc)
  have : d.toNat < 1114112 := by
    have := d.valid
    unfold Char.toNat
    rcases this with h | ⟨_, h⟩ <;> omega
  omega
theorem Tx.lit {n : Nat} {s : String} (h : s.length ≤ n := by decide) : Tx n (Str.ofString s) := (Tx.of s).mono h
theorem Tx.num {k : Nat} {i : Int} (h : i.natAbs < 10 ^ k) (hk : 0 < k := by decide) : Tx (k + 1) (Str.ofString (toString i)) := (Tx.of _).mono (int_text_length_le10 hk h)
theorem Tx.join {n m k : Nat} {y : Str} (hy : Tx m y) : ∀ {ps : List Str}, (∀ p ∈ ps, Tx n p) → ps.length ≤ k → Tx (k * (n + m)) (Txt.join y ps) := by
  intro ps
  rw [TL.join_eq]
  induction ps generalizing k with
  | nil => exact fun _ _ => Tx.nil
  | cons p ps ih =>
    intro h hk
    obtain ⟨k, rfl⟩ : ∃ j, k = j + 1 := ⟨k - 1, by rw [List.length_cons] at hk; omega⟩
    have e : (k + 1) * (n + m) = (n + m) + k * (n + m) := by rw [Nat.succ_mul, Nat.add_comm]
    cases ps with
    | nil =>
      refine (h p List.mem_cons_self).mono ?_
      rw [e]
      omega
    | cons q ps =>
      have := ih (k := k) (fun r hr => h r (List.mem_cons_of_mem _ hr)) (by rw [List.length_cons] at hk; omega)
      show Tx _ (p ++ y ++ Str.join y (q :: ps))
      rw [e]
      exact ((h p List.mem_cons_self).app hy).app this
theorem Tx.repr {n : Nat} {s : Str} (h : Tx n s) : (reprText s).length ≤ 10 * n + 2 := by
  have := PySem.StrLaws.reprText_len s fun c hc => by have := h.2 c hc; omega
  have := h.1
  omega
theorem Tx.len {n : Nat} {s : Str} (h : Tx n s) : s.length ≤ n := h.1
theorem log2_small {i : Int} {k : Nat} (h : i.natAbs < 10 ^ k) (hk : k ≤ 400 := by decide) : i.natAbs.log2 < 1920 := by
  by_cases e : i.natAbs = 0
  · rw [e]
    decide
  · rw [Nat.log2_lt e]
    refine Nat.lt_of_lt_of_le h ?_
    calc 10 ^ k ≤ 10 ^ 400 := Nat.pow_le_pow_right (by decide) hk
      _ ≤ 2 ^ 1920 := by decide +kernel
theorem Tx.strOk {n : Nat} {s : Str} (h : Tx n s) : (PyData.str s).canLay0 = true := by
  unfold PyData.canLay0 PyData.strOk
  rw [← Array.all_toList, List.all_eq_true]
  exact fun c hc => by simpa using h.2 c hc
theorem eq_str {neg : Bool} {S : Store} {a b : Str} : eqV neg (.d (.str a)) (.d (.str b)) S = .ok (.d (.bool (neg ^^ decide (a = b)))) S := rfl
theorem eq_int {neg : Bool} {S : Store} {i j : Int} : eqV neg (.d (.int i)) (.d (.int j)) S = .ok (.d (.bool (neg ^^ (i == j)))) S := by
  show (if eqOk (.int i) (.int j) = true then Rs.ok (SV.d (.bool (neg ^^ PyData.eqv (.int i) (.int j)))) S else .bad) = _
  rw [if_pos (by rfl)]
  simp only [PyData.eqv]
theorem sat_eq {α : Type} {r : Rs α} {a : α} {S : Store} (h : r.sat (fun v S' => v = a ∧ S' = S) NoX) : r = .ok a S := by
  obtain ⟨v, S', e, rfl, rfl⟩ := h.ex
  exact e
theorem len_nil : Str.empty.length = 0 := rfl
theorem Paired.app {α β : Type} {R : α → β → Prop} : ∀ {xs : List α} {ys : List β} {xs' : List α} {ys' : List β}, Paired R xs ys → Paired R xs' ys' → Paired R (xs ++ xs') (ys ++ ys')
  | _, _, _, _, .nil, k => k
  | _, _, _, _, .cons h t, k => .cons h (Paired.app t k)
theorem strs_map : ∀ ts : List Str, strsOf (ts.map .str) = some ts
  | [] => rfl
  | t :: ts => by simp [strsOf, strs_map ts]
theorem join_ok {S : Store} {a : Str} {ts : List Str} {n m : Nat} (ha : Tx m a) (h : ∀ t ∈ ts, Tx n t) (hl : ts.length * (n + m) ≤ 16777216) : joinV (.d (.str a)) (.d (.list (ts.map .str))) S = .ok (.d (.str (Txt.join a ts))) S := by
  have e : (ts.map (·.length)).sum + ts.length * a.length ≤ 16777216 := by
    have q : (ts.map (·.length)).sum ≤ ts.length * n := by
      clear hl
      induction ts with
      | nil => simp
      | cons t ts ih =>
        have h1 := (h t List.mem_cons_self).1
        have h2 := ih fun t ht => h t (List.mem_cons_of_mem _ ht)
        rw [List.map_cons, List.sum_cons, List.length_cons, Nat.succ_mul]
        omega
    have r : ts.length * a.length ≤ ts.length * m := Nat.mul_le_mul_left _ ha.1
    rw [Nat.mul_add] at hl
    omega
  show (match strsOf (ts.map .str) with
    | some ys => if (ys.map fun t : Str => t.length).sum + ys.length * a.length ≤ 16777216 then Rs.ok (SV.d (.str (Txt.join a ys))) S else .bad
    | none => .bad) = _
  rw [strs_map]
  show (if (ts.map (·.length)).sum + ts.length * a.length ≤ 16777216 then Rs.ok (SV.d (.str (Txt.join a ts))) S else .bad) = _
  rw [if_pos e]
theorem Paired.mem {α β : Type} {R : α → β → Prop} {b : β} : ∀ {xs : List α} {ys : List β}, Paired R xs ys → b ∈ ys → ∃ a ∈ xs, R a b
  | _, _, .nil, h => by cases h
  | _, _, .cons r t, h => by
    rcases List.mem_cons.mp h with rfl | h
    · exact ⟨_, List.mem_cons_self, r⟩
    · obtain ⟨a, ha, q⟩ := Paired.mem t h
      exact ⟨a, List.mem_cons_of_mem _ ha, q⟩
end PD
namespace PD
open PySem PySem.Spec PyProof.Rows L2
theorem strs_of_all {P : Str → Prop} : ∀ {ds : List PyData}, (∀ d ∈ ds, ∃ s, d = .str s ∧ P s) → ∃ ts : List Str, ds = ts.map .str ∧ ∀ t ∈ ts, P t
  | [], _ => ⟨[], rfl, by simp⟩
  | d :: ds, h => by
    obtain ⟨s, rfl, p⟩ := h d List.mem_cons_self
    obtain ⟨ts, rfl, q⟩ := strs_of_all fun e he => h e (List.mem_cons_of_mem _ he)
    exact ⟨s :: ts, rfl, fun t ht => by
      rcases List.mem_cons.mp ht with rfl | ht
      · exact p
      · exact q t ht⟩
theorem rng_get {lo hi : Int} {k : Nat} {x : SV} (h : (rngL lo hi)[k]? = some x) : x = .d (.int (lo + (k : Nat))) ∧ lo + (k : Nat) < hi := by
  unfold rngL at h
  rw [List.getElem?_map] at h
  by_cases hk : k < (hi - lo).toNat
  · rw [List.getElem?_range hk] at h
    exact ⟨(Option.some.inj h).symm, by omega⟩
  · rw [List.getElem?_eq_none (by simpa using hk)] at h
    cases h
theorem rng_len {lo hi : Int} : (rngL lo hi).length = (hi - lo).toNat := by simp [rngL]
theorem rng1_ok {k : Int} {S : Store} (h0 : -1073741824 ≤ k) (h1 : k ≤ 1073741824) : rng1V [.d (.int k)] S = .ok (rngL 0 k) S := by
  have e : big62 k = true := by
    simp only [big62, Bool.and_eq_true, decide_eq_true_eq]
    omega
  show (if big62 k = true then Rs.ok (rngL 0 k) S else .bad) = _
  rw [if_pos e]
theorem ssat_rng {g : GM} {m : SM} {p : Po} {hi : Int} {fr : Fr} {S : Store} (I : Nat → Fr → Store → Prop) (h0 : I 0 fr S)
    (hs : ∀ (k : Nat) fr S, (k : Int) < hi → I k fr S → ∃ fr1, g (.d (.int (k : Nat))) fr = some fr1 ∧ (m fr1 S).sat ⟨I (k + 1), p.nx, I (k + 1), p.rt, p.ex⟩) (hf : ∀ fr S, I hi.toNat fr S → p.nx fr S) : (forF g m (rngL 0 hi) fr S).sat p := by
  refine ssat_for I 0 h0 (fun k x fr S e h => ?_) fun fr S h => hf fr S ?_
  · obtain ⟨rfl, l⟩ := rng_get e
    rw [Nat.zero_add] at h ⊢
    have := hs k fr S (by omega) h
    simpa using this
  · rw [rng_len, Nat.zero_add, Int.sub_zero] at h
    exact h
theorem sat_crng {g : GM} {te : EM} {vs : List Nat} {fr : Fr} {hi : Int} {S : Store} {Q : List PyData → Store → Prop} {X : Exc → Store → Prop} (I : Nat → Store → List PyData → Prop) (h0 : I 0 S [])
    (hs : ∀ (k : Nat) S acc, (k : Int) < hi → acc.length ≤ k → I k S acc → ∃ fr1, g (.d (.int (k : Nat))) (wipeF fr vs) = some fr1 ∧ (te fr1 S).sat (fun y S2 => ∃ d, y = .d d ∧ I (k + 1) S2 (acc ++ [d])) NoX) (hl : hi ≤ 1000000)
    (hf : ∀ S acc, acc.length ≤ hi.toNat → I hi.toNat S acc → Q acc S) : (compF g bYes te vs fr (rngL 0 hi) S []).sat Q X := by
  have sz : sizeLine = 16777216 := sizeLine_eq
  refine sat_comp (fun k S acc => acc.length ≤ k ∧ I k S acc) 0 ⟨Nat.le_refl _, h0⟩ (fun k x S acc e h => ?_) fun S acc h => ?_
  · obtain ⟨rfl, l⟩ := rng_get e
    rw [Nat.zero_add] at h ⊢
    obtain ⟨fr1, e1, h1⟩ := hs k S acc (by omega) h.1 h.2
    rw [Int.zero_add]
    refine ⟨fr1, e1, ?_⟩
    simp only [bYes, sat_ok, if_true]
    refine h1.on fun y S2 ⟨d, ey, h2⟩ => ⟨d, ey, ?_, ?_, h2⟩
    · have := h.1
      omega
    · have := h.1
      simp
      omega
  · rw [rng_len, Nat.zero_add, Int.sub_zero] at h
    exact hf S acc h.1 h.2
theorem Str1.len {c : Nat} : (⟨#[c]⟩ : Str).length = 1 := rfl
structure Sh (k n : Nat) (d : PyData) : Prop where
  ok : d.showable = true
  nd : d.hasDict = false
  dp : d.depth ≤ k
  ln : d.shown.length ≤ n
theorem Sh.mono {k k' n n' : Nat} {d : PyData} (h : Sh k n d) (a : k ≤ k') (b : n ≤ n') : Sh k' n' d := ⟨h.ok, h.nd, Nat.le_trans h.dp a, Nat.le_trans h.ln b⟩
theorem Sh.none {k n : Nat} (h : 4 ≤ n) : Sh k n .none := ⟨rfl, rfl, Nat.zero_le _, h⟩
theorem Sh.bool {k n : Nat} {b : Bool} (h : 5 ≤ n) : Sh k n (.bool b) := ⟨rfl, rfl, Nat.zero_le _, by cases b <;> (refine Nat.le_trans ?_ h; decide)⟩
theorem Sh.int {k m n : Nat} {i : Int} (h : i.natAbs < 10 ^ m) (hm : m ≤ 400) (h0 : 0 < m) (hn : m + 1 ≤ n) : Sh k n (.int i) :=
  ⟨by simp only [PyData.showable, decide_eq_true_eq]; exact log2_small h hm, rfl, Nat.zero_le _, Nat.le_trans (Tx.num h h0).len hn⟩
theorem Sh.str {k m n : Nat} {s : Str} (h : Tx m s) (hn : 10 * m + 2 ≤ n) : Sh k n (.str s) := ⟨rfl, rfl, Nat.zero_le _, Nat.le_trans h.repr hn⟩
theorem sh_all {k n : Nat} : ∀ {ds : List PyData}, (∀ d ∈ ds, Sh k n d) → PyData.showableAll ds = true ∧ PyData.hasDictAll ds = false ∧ PyData.depthAll ds ≤ k ∧ (∀ t ∈ PyData.shownAll ds, t.length ≤ n) ∧ (PyData.shownAll ds).length = ds.length
  | [], _ => ⟨rfl, rfl, Nat.zero_le _, by simp [PyData.shownAll], rfl⟩
  | d :: ds, h => by
    obtain ⟨a, b, c, e, f⟩ := sh_all fun x hx => h x (List.mem_cons_of_mem _ hx)
    have g := h d List.mem_cons_self
    refine ⟨?_, ?_, ?_, fun t ht => ?_, ?_⟩
    · simp only [PyData.showableAll, g.ok, a, Bool.and_self]
    · simp only [PyData.hasDictAll, g.nd, b, Bool.or_self]
    · simp only [PyData.depthAll]
      exact Nat.max_le.mpr ⟨g.dp, c⟩
    · simp only [PyData.shownAll, List.mem_cons] at ht
      rcases ht with rfl | ht
      · exact g.ln
      · exact e t ht
    · simp only [PyData.shownAll, List.length_cons, f]
theorem join_le {y : Str} {n : Nat} : ∀ {ts : List Str}, (∀ t ∈ ts, t.length ≤ n) → (Str.join y ts).length ≤ ts.length * (n + y.length)
  | [], _ => by simp [Str.join, Str.empty, Str.length]
  | [t], h => by
    have := h t List.mem_cons_self
    show t.length ≤ _
    simp
    omega
  | t :: u :: ts, h => by
    have h1 := h t List.mem_cons_self
    have h2 := join_le (y := y) (ts := u :: ts) fun x hx => h x (List.mem_cons_of_mem _ hx)
    show (t ++ y ++ Str.join y (u :: ts)).length ≤ _
    rw [Str.length_append, Str.length_append]
    have e : (t :: u :: ts).length * (n + y.length) = (n + y.length) + (u :: ts).length * (n + y.length) := by
      rw [List.length_cons, Nat.succ_mul, Nat.add_comm]
    rw [e]
    omega
theorem from_le {n : Nat} : ∀ {ts : List Str} {k : Nat} {acc : Str}, (∀ t ∈ ts, t.length ≤ n) → (textFrom k acc ts).length ≤ acc.length + ts.length * (n + 2)
  | [], _, acc, _ => by
    show acc.length ≤ _
    omega
  | t :: ts, k, acc, h => by
    have h1 := h t List.mem_cons_self
    have h2 := from_le (ts := ts) (k := k + 1) (acc := acc ++ (if k > 0 then ", " else "" : String) ++ t) fun x hx => h x (List.mem_cons_of_mem _ hx)
    have e : (Str.ofString (if k > 0 then ", " else "" : String)).length ≤ 2 := by
      by_cases q : k > 0
      · rw [if_pos q]
        decide
      · rw [if_neg q]
        decide
    rw [Str.length_append, Str.length_append] at h2
    show (textFrom (k + 1) (acc ++ (if k > 0 then ", " else "" : String) ++ t) ts).length ≤ _
    rw [List.length_cons, Nat.succ_mul]
    omega
theorem Sh.list {k n m : Nat} {ds : List PyData} (h : ∀ d ∈ ds, Sh k n d) (hl : ds.length ≤ m) : Sh (k + 1) (3 + m * (n + 2)) (.list ds) := by
  obtain ⟨a, b, c, e, f⟩ := sh_all h
  refine ⟨by simpa only [PyData.showable] using a, by simpa only [PyData.hasDict] using b, by simp only [PyData.depth]; omega, ?_⟩
  have j := from_le (k := 0) (acc := ("[" : Str)) e
  rw [f] at j
  have q : ds.length * (n + 2) ≤ m * (n + 2) := Nat.mul_le_mul_right _ hl
  show (textFrom 0 "[" (PyData.shownAll ds) ++ ("]" : Str)).length ≤ _
  have l1 : ("[" : Str).length = 1 := rfl
  have l2 : ("]" : Str).length = 1 := rfl
  rw [Str.length_append, l2]
  rw [l1] at j
  omega
theorem Sh.tuple {k n m : Nat} {ds : List PyData} (h : ∀ d ∈ ds, Sh k n d) (hl : ds.length ≤ m) : Sh (k + 1) (3 + m * (n + 2)) (.tuple ds) := by
  obtain ⟨a, b, c, e, f⟩ := sh_all h
  refine ⟨by simpa only [PyData.showable] using a, by simpa only [PyData.hasDict] using b, by simp only [PyData.depth]; omega, ?_⟩
  have j := join_le (y := ", ") e
  have l0 : (", " : Str).length = 2 := rfl
  rw [l0, f] at j
  have q : ds.length * (n + 2) ≤ m * (n + 2) := Nat.mul_le_mul_right _ hl
  show (("(" : Str) ++ Str.join ", " (PyData.shownAll ds) ++ (if (PyData.shownAll ds).length == 1 then ",)" else ")" : String)).length ≤ _
  have l1 : ("(" : Str).length = 1 := rfl
  have l2 : (Str.ofString (if (PyData.shownAll ds).length == 1 then ",)" else ")" : String)).length ≤ 2 := by
    by_cases q : ((PyData.shownAll ds).length == 1) = true
    · rw [if_pos q]
      decide
    · rw [if_neg q]
      decide
  rw [Str.length_append, Str.length_append, l1]
  omega
theorem Paired.uniq {α β : Type} {R : α → β → Prop} (u : ∀ a b c, R a b → R a c → b = c) : ∀ {xs : List α} {ys zs : List β}, Paired R xs ys → Paired R xs zs → ys = zs
  | _, _, _, .nil, .nil => rfl
  | _, _, _, .cons h t, .cons h' t' => by rw [u _ _ _ h h', Paired.uniq u t t']
theorem cut_take {ds : List PyData} {k : Nat} : PD.cutD ds none (some (k : Int)) = ds.take k := by
  unfold PD.cutD
  rw [HT.sIx_none, HT.sIx_nat, Nat.sub_zero, List.drop_zero]
  by_cases h : k ≤ ds.length
  · rw [Nat.min_eq_left h]
  · rw [Nat.min_eq_right (by omega), List.take_of_length_le (Nat.le_refl _), List.take_of_length_le (by omega)]
end PD
namespace PD
open PySem PySem.Spec PyProof.Rows L2
def pd (p : Str × Int) : PyData := .tuple [.str p.1, .int p.2]
def Lw (n : Nat) (s : Str) : Prop := s.length ≤ n ∧ ∀ c ∈ s.cps.toList, 97 ≤ c ∧ c ≤ 122
theorem Lw.tx {n : Nat} {s : Str} (h : Lw n s) : Tx n s := ⟨h.1, fun c hc => by have := h.2 c hc; omega⟩
theorem Lw.app {n m : Nat} {s t : Str} (h : Lw n s) (k : Lw m t) : Lw (n + m) (s ++ t) := by
  refine ⟨by rw [Str.length_append]; exact Nat.add_le_add h.1 k.1, fun c hc => ?_⟩
  rw [Str.cps_append, Array.toList_append, List.mem_append] at hc
  exact hc.elim (h.2 c) (k.2 c)
theorem Lw.mono {n m : Nat} {s : Str} (h : Lw n s) (l : n ≤ m) : Lw m s := ⟨Nat.le_trans h.1 l, h.2⟩
theorem Lw.one {c : Nat} (h : 97 ≤ c ∧ c ≤ 122) : Lw 1 ⟨#[c]⟩ := ⟨Nat.le_refl _, fun d hd => by simp at hd; rw [hd]; exact h⟩
theorem Lw.nil {n : Nat} : Lw n Str.empty := ⟨Nat.zero_le _, fun c hc => by simp [Str.empty] at hc⟩
theorem Lw.join0 : ∀ {ps : List Str} {k : Nat}, (∀ p ∈ ps, Lw 1 p) → ps.length ≤ k → Lw k (Txt.join "" ps) := by
  intro ps
  rw [TL.join_eq]
  induction ps with
  | nil => exact fun _ _ => Lw.nil
  | cons p ps ih =>
    intro k h hk
    obtain ⟨k, rfl⟩ : ∃ j, k = j + 1 := ⟨k - 1, by rw [List.length_cons] at hk; omega⟩
    cases ps with
    | nil => exact (h p List.mem_cons_self).mono (by omega)
    | cons q ps =>
      have := ih (k := k) (fun r hr => h r (List.mem_cons_of_mem _ hr)) (by rw [List.length_cons] at hk; omega)
      show Lw _ (p ++ "" ++ Str.join "" (q :: ps))
      have e : (p ++ Str.ofString "" : Str) = p := Str.append_empty p
      rw [e, Nat.add_comm]
      exact (h p List.mem_cons_self).app this
theorem abc_lw : ∀ c ∈ (Str.ofString "abcdefghijklmnopqrstuvwxyz").cps.toList, 97 ≤ c ∧ c ≤ 122 := by decide +kernel
def Sn (s : Str) : Prop := Lw 8 s ∧ 0 < s.length
theorem Sn.tx {s : Str} (h : Sn s) : Tx 8 s := h.1.tx
end PD
namespace PD
open PySem PySem.Spec PyProof.Rows L2
theorem comp_map {α : Type} {enc : α → PyData} {g : GM} {te : EM} {vs : List Nat} {fr : Fr} {S : Store} {f : α → PyData} : ∀ {ys : List α} {acc : List PyData}, (∀ y ∈ ys, ∃ fr1, g (.d (enc y)) (wipeF fr vs) = some fr1 ∧ te fr1 S = .ok (.d (f y)) S) → acc.length + ys.length ≤ sizeLine →
    compF g bYes te vs fr ((ys.map enc).map .d) S acc = .ok (acc ++ ys.map f) S
  | [], acc, _, _ => by simp [compF]
  | y :: ys, acc, h, hl => by
    obtain ⟨fr1, e, h1⟩ := h y List.mem_cons_self
    rw [List.length_cons] at hl
    have e1 : compF g bYes te vs fr (((y :: ys).map enc).map .d) S acc = compF g bYes te vs fr ((ys.map enc).map .d) S (acc ++ [f y]) := by
      simp only [List.map_cons, compF, e, bYes, noX, Rs.bind, h1, if_true, if_pos (show acc.length < sizeLine by omega)]
    rw [e1, comp_map (fun z hz => h z (List.mem_cons_of_mem _ hz)) (by simp; omega)]
    simp
theorem comp_mapf {α : Type} {enc : α → PyData} {g : GM} {tt : TMt} {te : EM} {vs : List Nat} {fr : Fr} {S : Store} {b : α → Bool} {f : α → PyData} : ∀ {ys : List α} {acc : List PyData}, (∀ y ∈ ys, ∃ fr1, g (.d (enc y)) (wipeF fr vs) = some fr1 ∧ tt fr1 S = .ok (b y) S ∧ (b y = true → te fr1 S = .ok (.d (f y)) S)) → acc.length + ys.length ≤ sizeLine →
    compF g tt te vs fr ((ys.map enc).map .d) S acc = .ok (acc ++ (ys.filter b).map f) S
  | [], acc, _, _ => by simp [compF]
  | y :: ys, acc, h, hl => by
    obtain ⟨fr1, e, h1, h2⟩ := h y List.mem_cons_self
    rw [List.length_cons] at hl
    have ih := fun acc' (hl' : acc'.length + ys.length ≤ sizeLine) => comp_mapf (enc := enc) (g := g) (tt := tt) (te := te) (vs := vs) (fr := fr) (S := S) (b := b) (f := f) (ys := ys) (acc := acc') (fun z hz => h z (List.mem_cons_of_mem _ hz)) hl'
    rw [List.map_cons, List.map_cons]
    simp only [compF, e, h1, noX, Rs.bind]
    cases hb : b y with
    | true =>
      rw [if_pos rfl, h2 hb]
      simp only [Rs.bind]
      rw [if_pos (by omega), ih _ (by simp; omega), List.filter_cons_of_pos hb]
      simp
    | false =>
      rw [if_neg (by simp), ih _ (by omega), List.filter_cons_of_neg (by simp [hb])]
theorem intsOf_map : ∀ ns : List Int, intsOf (ns.map .int) = some ns
  | [] => rfl
  | n :: ns => by simp [intsOf, intsOf_map ns]
theorem sum_ok {S : Store} {ns : List Int} : sumV [.d (.list (ns.map .int))] S = .ok (.d (.int ns.sum)) S := by
  simp only [sumV, intsOf_map]
theorem ssat_while {c : TMt} {m : SM} {p : Po} (I : Nat → Fr → Store → Prop)
    (step : ∀ k fr S, I k fr S → (c fr S).sat (fun b S1 => if b = true then (m fr S1).sat ⟨fun fr S => ∃ j, j < k ∧ I j fr S, p.nx, fun fr S => ∃ j, j < k ∧ I j fr S, p.rt, p.ex⟩ else p.nx fr S1) p.ex) :
    ∀ (n fuel : Nat) {fr : Fr} {S : Store}, n < fuel → I n fr S → (whileF c m fuel fr S).sat p
  | n, 0, fr, S, h, _ => by omega
  | n, fuel + 1, fr, S, h, hi => by
    have hs := step n fr S hi
    have go : ∀ fr2 S2, (∃ j, j < n ∧ I j fr2 S2) → (whileF c m fuel fr2 S2).sat p := fun fr2 S2 ⟨j, hj, h2⟩ => ssat_while I step j fuel (by omega) h2
    unfold whileF
    rw [ssat_toS]
    refine hs.mono (fun b S1 hb => ?_) fun _ _ z => z
    cases b with
    | false => rw [if_neg Bool.false_ne_true] at hb ⊢; rw [ssat_nx]; exact hb
    | true =>
      rw [if_pos rfl] at hb ⊢
      cases q : m fr S1 with
      | nx fr2 S2 =>
        rw [q, ssat_nx] at hb
        exact go fr2 S2 hb
      | ct fr2 S2 =>
        rw [q, ssat_ct] at hb
        exact go fr2 S2 hb
      | bk fr2 S2 =>
        rw [q, ssat_bk] at hb
        show (SR.nx fr2 S2).sat p
        rw [ssat_nx]
        exact hb
      | rt v S2 =>
        rw [q, ssat_rt] at hb
        show (SR.rt v S2).sat p
        rw [ssat_rt]
        exact hb
      | exc x fr2 S2 =>
        rw [q, ssat_exc] at hb
        show (SR.exc x fr2 S2).sat p
        rw [ssat_exc]
        exact hb
      | bad =>
        rw [q, ssat_bad] at hb
        exact hb.elim
theorem fpop_ok {i : Nat} {fr : Fr} {S : Store} {ds : List PyData} {d : PyData} (h : fr[i]? = some (some (.d (.list (ds ++ [d]))))) : fPop i fr S = .ok (.d d, fr.set i (some (.d (.list ds)))) S := by
  unfold fPop ownL
  rw [h]
  simp
theorem ixT0 {S : Store} {x : PyData} {xs : List PyData} : ixV (.d (.tuple (x :: xs))) (.d (.int 0)) S = .ok (.d x) S := by
  simp [ixV, L2.atI, ixN]
theorem ixT1 {S : Store} {x y : PyData} {xs : List PyData} : ixV (.d (.tuple (x :: y :: xs))) (.d (.int 1)) S = .ok (.d y) S := by
  have e : L2.atI (x :: y :: xs) 1 = some y := by
    unfold L2.atI ixN
    rw [if_pos (by decide), if_pos (by simp; omega)]
    rfl
  simp only [ixV, e]
theorem ixT2 {S : Store} {x y z : PyData} {xs : List PyData} : ixV (.d (.tuple (x :: y :: z :: xs))) (.d (.int 2)) S = .ok (.d z) S := by
  have e : L2.atI (x :: y :: z :: xs) 2 = some z := by
    unfold L2.atI ixN
    rw [if_pos (by decide), if_pos (by simp; omega)]
    rfl
  simp only [ixV, e]
theorem ixL0 {S : Store} {x : PyData} {xs : List PyData} : ixV (.d (.list (x :: xs))) (.d (.int 0)) S = .ok (.d x) S := by
  simp [ixV, L2.atI, ixN]
theorem ixL1 {S : Store} {x y : PyData} {xs : List PyData} : ixV (.d (.list (x :: y :: xs))) (.d (.int 1)) S = .ok (.d y) S := by
  have e : L2.atI (x :: y :: xs) 1 = some y := by
    unfold L2.atI ixN
    rw [if_pos (by decide), if_pos (by simp; omega)]
    rfl
  simp only [ixV, e]
theorem ixL2 {S : Store} {x y z : PyData} {xs : List PyData} : ixV (.d (.list (x :: y :: z :: xs))) (.d (.int 2)) S = .ok (.d z) S := by
  have e : L2.atI (x :: y :: z :: xs) 2 = some z := by
    unfold L2.atI ixN
    rw [if_pos (by decide), if_pos (by simp; omega)]
    rfl
  simp only [ixV, e]
theorem ix_map {α : Type} [Inhabited α] {enc : α → PyData} {S : Store} {xs : List α} {k : Int} (h0 : 0 ≤ k) (h1 : k < xs.length) : ixV (.d (.list (xs.map enc))) (.d (.int k)) S = .ok (.d (enc (xs.getD k.toNat default))) S := by
  have e : L2.atI (xs.map enc) k = some (enc (xs.getD k.toNat default)) := by
    unfold L2.atI ixN
    rw [if_pos h0, if_pos (by simpa using h1), Option.bind_some, List.getElem?_map, List.getD_eq_getElem?_getD, List.getElem?_eq_getElem (by omega)]
    rfl
  simp only [ixV, e]
theorem ix_mapT {α : Type} [Inhabited α] {enc : α → PyData} {S : Store} {xs : List α} {k : Int} (h0 : 0 ≤ k) (h1 : k < xs.length) : ixV (.d (.tuple (xs.map enc))) (.d (.int k)) S = .ok (.d (enc (xs.getD k.toNat default))) S := by
  have e : L2.atI (xs.map enc) k = some (enc (xs.getD k.toNat default)) := by
    unfold L2.atI ixN
    rw [if_pos h0, if_pos (by simpa using h1), Option.bind_some, List.getElem?_map, List.getD_eq_getElem?_getD, List.getElem?_eq_getElem (by omega)]
    rfl
  simp only [ixV, e]
theorem getD_mem {α : Type} [Inhabited α] {xs : List α} {k : Nat} (h : k < xs.length) : xs.getD k default ∈ xs := by
  rw [List.getD_eq_getElem?_getD, List.getElem?_eq_getElem h]
  exact List.getElem_mem h
theorem ssat_mid {r : SR} {p : Po} (mid : Fr → Store → Prop) (h : r.sat { p with nx := mid }) (k : ∀ fr S, mid fr S → p.nx fr S) : r.sat p :=
  h.mono k (fun _ _ h => h) (fun _ _ h => h) (fun _ _ h => h) fun _ _ h => h
theorem eq_nilL0 {neg : Bool} {S : Store} {ds : List PyData} : eqV neg (.d (.list ds)) (.d (.list [])) S = .ok (.d (.bool (neg ^^ ds.isEmpty))) S := by
  show (if eqOk (.list ds) (.list []) = true then Rs.ok (SV.d (.bool (neg ^^ PyData.eqv (.list ds) (.list [])))) S else .bad) = _
  have e2 : PyData.eqv (.list ds) (.list []) = ds.isEmpty := by
    cases ds <;> simp [PyData.eqv, PyData.eqvAll]
  have e1 : eqOk (.list ds) (.list []) = true := by
    cases ds with
    | nil => rfl
    | cons d ds => simp [eqOk, lstDiff]
  rw [if_pos e1, e2]
theorem eq_nilL {neg : Bool} {S : Store} {ds : List PyData} (h : PyData.canLayAll0 ds = true) : eqV neg (.d (.list ds)) (.d (.list [])) S = .ok (.d (.bool (neg ^^ ds.isEmpty))) S := eq_nilL0
theorem lay_all : ∀ {ds : List PyData}, (∀ d ∈ ds, d.canLay0 = true) → PyData.canLayAll0 ds = true
  | [], _ => rfl
  | d :: ds, h => by
    rw [PyData.canLayAll0, h d List.mem_cons_self, lay_all fun x hx => h x (List.mem_cons_of_mem _ hx)]
    rfl
theorem ix_last {S : Store} {ds : List PyData} {x : PyData} : ixV (.d (.list (ds ++ [x]))) (.d (.int (-1))) S = .ok (.d x) S := by
  have e : L2.atI (ds ++ [x]) (-1) = some x := by
    unfold L2.atI ixN
    rw [if_neg (by decide), if_pos (by simp; omega)]
    have : (-1 + ((ds ++ [x]).length : Int)).toNat = ds.length := by simp; omega
    simp only [Option.bind_some, this]
    simp
  simp only [ixV, e]
structure Kd (ps : List (Str × Int)) : Prop where
  sn : ∀ p ∈ ps, Sn p.1
  rg : ∀ p ∈ ps, 0 ≤ p.2 ∧ p.2 ≤ 2
  end_ : ∃ p ∈ ps, p.2 = 0
  len : ps.length ≤ 1000
inductive Maze where
  | mk (s : Str) (bs : List Maze)
namespace Maze
instance : Inhabited Maze := ⟨.mk Str.empty []⟩
def sign : Maze → Str
  | .mk s _ => s
def brs : Maze → List Maze
  | .mk _ bs => bs
mutual
def d : Maze → PyData
  | .mk s bs => .tuple [.str s, .tuple (ds bs)]
def ds : List Maze → List PyData
  | [] => []
  | m :: r => d m :: ds r
end
mutual
def size : Maze → Nat
  | .mk _ bs => 1 + sizes bs
def sizes : List Maze → Nat
  | [] => 0
  | m :: r => size m + sizes r
end
mutual
def Wf : Maze → Prop
  | .mk s bs => Sn s ∧ bs.length ≤ 2 ∧ Wfs bs
def Wfs : List Maze → Prop
  | [] => True
  | m :: r => Wf m ∧ Wfs r
end
theorem ds_map : ∀ bs : List Maze, ds bs = bs.map d
  | [] => by rw [ds]; rfl
  | m :: r => by rw [ds, ds_map r]; rfl
theorem ds_len (bs : List Maze) : (ds bs).length = bs.length := by rw [ds_map, List.length_map]
theorem wfs_all : ∀ {bs : List Maze}, Wfs bs ↔ ∀ m ∈ bs, Wf m
  | [] => by simp [Wfs]
  | m :: r => by rw [Wfs, wfs_all]; simp
theorem size_pos : ∀ m : Maze, 0 < m.size
  | .mk s bs => by rw [size]; omega
theorem size_mem {m : Maze} : ∀ {bs : List Maze}, m ∈ bs → size m ≤ sizes bs
  | [], h => by cases h
  | x :: r, h => by
    rw [sizes]
    rcases List.mem_cons.mp h with rfl | h
    · omega
    · have := size_mem h
      omega
theorem Wf.mem {s : Str} {bs : List Maze} (h : Wf (.mk s bs)) {m : Maze} (hm : m ∈ bs) : Wf m := by
  rw [Wf] at h
  exact wfs_all.mp h.2.2 m hm
theorem Wf.sn {s : Str} {bs : List Maze} (h : Wf (.mk s bs)) : Sn s := by rw [Wf] at h; exact h.1
theorem Wf.two {s : Str} {bs : List Maze} (h : Wf (.mk s bs)) : bs.length ≤ 2 := by rw [Wf] at h; exact h.2.1
mutual
theorem lay : ∀ {m : Maze}, Wf m → m.d.canLay0 = true
  | .mk s bs, h => by
    have a := h.sn.tx.strOk
    rw [Wf] at h
    rw [d, PyData.canLay0, PyData.canLayAll0, PyData.canLayAll0, PyData.canLayAll0, a, PyData.canLay0, lays h.2.2]
    rfl
theorem lays : ∀ {bs : List Maze}, Wfs bs → PyData.canLayAll0 (ds bs) = true
  | [], _ => by rw [ds]; rfl
  | m :: r, h => by
    rw [Wfs] at h
    rw [ds, PyData.canLayAll0, lay h.1, lays h.2]
    rfl
end
mutual
theorem depth_le : ∀ m : Maze, m.d.depth ≤ 2 * m.size
  | .mk s bs => by
    have := depths_le bs
    rw [d, size]
    simp only [PyData.depth, PyData.depthAll]
    omega
theorem depths_le : ∀ bs : List Maze, PyData.depthAll (ds bs) ≤ 2 * sizes bs
  | [] => by rw [ds]; simp [PyData.depthAll]
  | m :: r => by
    have h1 := depth_le m
    have h2 := depths_le r
    rw [ds, sizes, PyData.depthAll]
    omega
end
mutual
def Of (ps : List (Str × Int)) : Maze → Prop
  | .mk s bs => (s, (bs.length : Int)) ∈ ps ∧ Ofs ps bs
def Ofs (ps : List (Str × Int)) : List Maze → Prop
  | [] => True
  | m :: r => Of ps m ∧ Ofs ps r
end
theorem ofs_all {ps : List (Str × Int)} : ∀ {bs : List Maze}, Ofs ps bs ↔ ∀ m ∈ bs, Of ps m
  | [] => by simp [Ofs]
  | m :: r => by rw [Ofs, ofs_all]; simp
mutual
theorem Of.wf {ps : List (Str × Int)} (k : Kd ps) : ∀ {m : Maze}, Of ps m → Wf m
  | .mk s bs, h => by
    rw [Of] at h
    rw [Wf]
    have := (k.rg _ h.1).2
    exact ⟨k.sn _ h.1, by simp only at this; omega, Ofs.wfs k h.2⟩
theorem Ofs.wfs {ps : List (Str × Int)} (k : Kd ps) : ∀ {bs : List Maze}, Ofs ps bs → Wfs bs
  | [], _ => by simp [Wfs]
  | m :: r, h => by
    rw [Ofs] at h
    rw [Wfs]
    exact ⟨Of.wf k h.1, Ofs.wfs k h.2⟩
end
theorem two_cases {bs : List Maze} (h : bs.length ≤ 2) : bs = [] ∨ (∃ a, bs = [a]) ∨ ∃ a b, bs = [a, b] := by
  match bs, h with
  | [], _ => exact .inl rfl
  | [a], _ => exact .inr (.inl ⟨a, rfl⟩)
  | [a, b], _ => exact .inr (.inr ⟨a, b, rfl⟩)
mutual
def text : Maze → Str
  | .mk s bs => if bs.isEmpty = true then s else s ++ "(" ++ Txt.join ", " (texts bs) ++ ")"
def texts : List Maze → List Str
  | [] => []
  | m :: r => text m :: texts r
end
mutual
def rooms (p : List Int) : Maze → List (List Int × Maze)
  | .mk s bs => (p, .mk s bs) :: roomsL p 1 bs
def roomsL (p : List Int) (k : Int) : List Maze → List (List Int × Maze)
  | [] => []
  | m :: r => rooms (p ++ [k]) m ++ roomsL p (k + 1) r
end
def doorsL (p : List Int) (k : Int) : List Maze → List (List Int × Maze)
  | [] => []
  | m :: r => (p ++ [k], m) :: doorsL p (k + 1) r
theorem rooms_doors (p : List Int) : ∀ (k : Int) (bs : List Maze), roomsL p k bs = (doorsL p k bs).flatMap fun q => rooms q.1 q.2
  | k, [] => by simp [roomsL, doorsL]
  | k, m :: r => by rw [roomsL, rooms_doors p (k + 1) r]; simp [doorsL]
mutual
theorem rooms_len (p : List Int) : ∀ m : Maze, (rooms p m).length = m.size
  | .mk s bs => by rw [rooms, List.length_cons, roomsL_len, size]; omega
theorem roomsL_len (p : List Int) : ∀ (k : Int) (bs : List Maze), (roomsL p k bs).length = sizes bs
  | k, [] => by simp [roomsL, sizes]
  | k, m :: r => by rw [roomsL, List.length_append, rooms_len _ m, roomsL_len p (k + 1) r, sizes]
end
def pr (q : List Int × Maze) : PyData := .tuple [.tuple (q.1.map .int), q.2.d]
end Maze
end PD
namespace PD
open PySem PySem.Spec PyProof.Rows L2
namespace Maze
mutual
def key : Maze → PyData
  | .mk s bs => .tuple [.int (1 + sizes bs : Nat), .str s, .int bs.length, .tuple (keys bs)]
def keys : List Maze → List PyData
  | [] => []
  | m :: r => key m :: keys r
end
def at? : Maze → List Int → Option Maze
  | m, [] => some m
  | .mk _ bs, k :: p => if 1 ≤ k ∧ k ≤ bs.length then (bs[(k - 1).toNat]?).bind fun m => at? m p else none
termination_by _ p => p.length
def put : Maze → List Int → Maze → Maze
  | _, [], b => b
  | .mk s bs, k :: p, b => .mk s (bs.set (k - 1).toNat (put (bs.getD (k - 1).toNat default) p b))
termination_by _ p _ => p.length
theorem at_nil (m : Maze) : at? m [] = some m := by rw [at?]
theorem at_cons (s : Str) (bs : List Maze) (k : Int) (p : List Int) : at? (.mk s bs) (k :: p) = if 1 ≤ k ∧ k ≤ bs.length then (bs[(k - 1).toNat]?).bind fun m => at? m p else none := by rw [at?]
theorem at_some {s : Str} {bs : List Maze} {k : Int} {p : List Int} {r : Maze} (h : at? (.mk s bs) (k :: p) = some r) : ∃ m, 1 ≤ k ∧ k ≤ bs.length ∧ bs[(k - 1).toNat]? = some m ∧ at? m p = some r := by
  rw [at_cons] at h
  by_cases hk : 1 ≤ k ∧ k ≤ bs.length
  · rw [if_pos hk] at h
    obtain ⟨m, e1, e2⟩ := Option.bind_eq_some_iff.mp h
    exact ⟨m, hk.1, hk.2, e1, e2⟩
  · rw [if_neg hk] at h
    cases h
mutual
theorem rooms_at : ∀ (p : List Int) (m : Maze), ∀ q ∈ rooms p m, ∃ r, q.1 = p ++ r ∧ at? m r = some q.2
  | p, .mk s bs, q, hq => by
    rw [rooms] at hq
    rcases List.mem_cons.mp hq with rfl | hq
    · exact ⟨[], by simp, at_nil _⟩
    · obtain ⟨i, m, r, e1, e2, e3⟩ := roomsL_at p 1 bs q hq
      refine ⟨(((i : Nat) : Int) + 1) :: r, by rw [e1, Int.add_comm]; simp, ?_⟩
      have := (List.getElem?_eq_some_iff.mp e2).1
      rw [at_cons, if_pos (by omega), show (((i : Nat) : Int) + 1 - 1).toNat = i by omega, e2]
      exact e3
theorem roomsL_at : ∀ (p : List Int) (k : Int) (bs : List Maze), ∀ q ∈ roomsL p k bs, ∃ (i : Nat) (m : Maze) (r : List Int), q.1 = p ++ [k + i] ++ r ∧ bs[i]? = some m ∧ at? m r = some q.2
  | p, k, [], q, hq => by rw [roomsL] at hq; cases hq
  | p, k, m :: rest, q, hq => by
    rw [roomsL] at hq
    rcases List.mem_append.mp hq with hq | hq
    · obtain ⟨r, e1, e2⟩ := rooms_at (p ++ [k]) m q hq
      exact ⟨0, m, r, by rw [e1]; simp, rfl, e2⟩
    · obtain ⟨i, m', r, e1, e2, e3⟩ := roomsL_at p (k + 1) rest q hq
      exact ⟨i + 1, m', r, by rw [e1]; simp; omega, by simpa using e2, e3⟩
end
end Maze
end PD
namespace PD
open PySem PySem.Spec PyProof.Rows L2
def dmap {α : Type} (enc : α → PyData) (ys : List (α × PyData)) : List (PyData × PyData) := ys.map fun y => (enc y.1, y.2)
structure Enc {α : Type} (enc : α → PyData) : Prop where
  tup : ∀ a, isTup (enc a) = true
  key : ∀ a, keyT (enc a) = true
  inj : ∀ a b, toKey (enc a) = toKey (enc b) → a = b
section
variable {α : Type} {enc : α → PyData}
theorem dget_map [DecidableEq α] (E : Enc enc) (x : α) : ∀ ys : List (α × PyData), dget (dmap enc ys) (enc x) = (ys.find? fun y => decide (y.1 = x)).map (·.2)
  | [] => rfl
  | y :: ys => by
    have ih := dget_map E x ys
    unfold dget dmap at ih ⊢
    rw [List.map_cons, List.find?_cons, List.find?_cons]
    by_cases q : y.1 = x
    · rw [show decide (toKey (enc y.1, y.2).1 = toKey (enc x)) = true by simp [q], show decide (y.1 = x) = true by simp [q]]
      rfl
    · rw [show decide (toKey (enc y.1, y.2).1 = toKey (enc x)) = false by
        simp only [decide_eq_false_iff_not]
        exact fun z => q (E.inj _ _ z), show decide (y.1 = x) = false by simp [q]]
      exact ih
theorem tupKeys_map (E : Enc enc) (ys : List (α × PyData)) : tupKeys (dmap enc ys) = true := by
  unfold tupKeys dmap
  rw [List.all_eq_true]
  intro p hp
  obtain ⟨y, _, rfl⟩ := List.mem_map.mp hp
  exact E.tup _
theorem dput_new [DecidableEq α] (E : Enc enc) {x : α} {v : PyData} {ys : List (α × PyData)} (h : ∀ y ∈ ys, y.1 ≠ x) : dput (dmap enc ys) (enc x) v = dmap enc (ys ++ [(x, v)]) := by
  unfold dput
  rw [dget_map E, List.find?_eq_none.mpr (fun y hy => by simpa using h y hy)]
  rw [if_neg (by simp)]
  unfold dmap
  rw [List.map_append]
  rfl
theorem in_dict [DecidableEq α] (E : Enc enc) {neg : Bool} {S : Store} {x : α} {ys : List (α × PyData)} : inDV neg (.d (enc x)) (.d (.dict (dmap enc ys))) S = .ok (.d (.bool (neg ^^ decide (x ∈ ys.map (·.1))))) S := by
  show (if (keyT (enc x) && tupKeys (dmap enc ys)) = true then Rs.ok (SV.d (.bool (neg ^^ (dget (dmap enc ys) (enc x)).isSome))) S else .bad) = _
  rw [if_pos (by rw [E.key, tupKeys_map E]; rfl), dget_map E]
  congr 5
  rw [Option.isSome_map]
  rw [Bool.eq_iff_iff, List.find?_isSome, decide_eq_true_eq, List.mem_map]
  constructor
  · rintro ⟨y, hy, e⟩
    exact ⟨y, hy, by simpa using e⟩
  · rintro ⟨y, hy, e⟩
    exact ⟨y, hy, by simpa using e⟩
theorem ix_dict1 [DecidableEq α] (E : Enc enc) {S : Store} {x : α} {v : PyData} {ys : List (α × PyData)} (h : (ys.find? fun y => decide (y.1 = x)).map (·.2) = some v) : ixDV (.d (.dict (dmap enc ys))) (.d (enc x)) S = .ok (.d v) S := by
  show (if (keyT (enc x) && tupKeys (dmap enc ys)) = true then (match dget (dmap enc ys) (enc x) with
    | some d => Rs.ok (SV.d d) S
    | none => .bad) else .bad) = _
  rw [if_pos (by rw [E.key, tupKeys_map E]; rfl), dget_map E, h]
end
def k2 (x : Int × Int) : PyData := .tuple [.int x.1, .int x.2]
theorem nodup_lt : ∀ (N : Nat) {l : List Nat}, l.Nodup → (∀ x ∈ l, x < N) → l.length ≤ N
  | 0, l, _, h => by
    cases l with
    | nil => exact Nat.le_refl _
    | cons x l => exact absurd (h x List.mem_cons_self) (by omega)
  | N + 1, l, nd, h => by
    by_cases m : N ∈ l
    · have := nodup_lt N (nd.erase N) fun x hx => by
        have h1 := h x (List.mem_of_mem_erase hx)
        have h2 : x ≠ N := fun e => by
          subst e
          exact (List.Nodup.not_mem_erase nd) hx
        omega
      rw [List.length_erase_of_mem m] at this
      omega
    · have := nodup_lt N nd fun x hx => by
        have h1 := h x hx
        have h2 : x ≠ N := fun e => m (by rw [← e]; exact hx)
        omega
      omega
theorem map_of_all2 {α β : Type} {f : α → β} {P : α → Prop} : ∀ {ds : List β}, (∀ d ∈ ds, ∃ p, d = f p ∧ P p) → ∃ qs : List α, ds = qs.map f ∧ ∀ q ∈ qs, P q
  | [], _ => ⟨[], rfl, by simp⟩
  | d :: ds, h => by
    obtain ⟨p, rfl, hp⟩ := h d List.mem_cons_self
    obtain ⟨qs, rfl, hq⟩ := map_of_all2 (f := f) (P := P) fun d hd => h d (List.mem_cons_of_mem _ hd)
    exact ⟨p :: qs, rfl, fun q hq' => by
      rcases List.mem_cons.mp hq' with rfl | e
      · exact hp
      · exact hq q e⟩
inductive Deed where
  | stop (w : Str)
  | go (a b : Int)
def Deed.d : Deed → PyData
  | .stop w => .tuple [.str "stop", .str w]
  | .go a b => .tuple [.str "go", .int a, .int b]
def optS : Option Str → PyData
  | none => .none
  | some s => .str s
def optI : Option Int → PyData
  | none => .none
  | some s => .int s
def optN : Option Nat → PyData
  | none => .none
  | some s => .int (s : Nat)
structure Rl where
  sg : Option Str
  dr : Option Int
  dd : Deed
instance : Inhabited Rl := ⟨⟨none, none, .stop "lost"⟩⟩
def Rl.d (r : Rl) : PyData := .tuple [optS r.sg, optI r.dr, r.dd.d]
def stD (rs : List Rl) : PyData := .tuple (rs.map Rl.d)
abbrev Rob := List (List Rl)
def robD (R : Rob) : PyData := .tuple (R.map stD)
def fitS : Option Str → Str → Bool
  | none, _ => true
  | some t, s => decide (t = s)
def fitD : Option Int → Int → Bool
  | none, _ => true
  | some k, q => decide (k = q)
def Rl.fits (s : Str) (q : Int) (r : Rl) : Bool := fitS r.sg s && fitD r.dr q
def ruleOf (rs : List Rl) (s : Str) (q : Int) : Option Nat := rs.findIdx? (Rl.fits s q)
def deedOf (rs : List Rl) : Option Nat → Deed
  | none => .stop "lost"
  | some i => (rs.getD i default).dd
inductive Res where
  | out (k : Int)
  | ever
  | stop (w : Str)
deriving DecidableEq
instance : Inhabited Res := ⟨.ever⟩
def Res.d : Res → PyData
  | .out k => .tuple [.str "out", .int k]
  | .ever => .tuple [.str "ever"]
  | .stop w => .tuple [.str "stop", .str w]
def resD (rs : List Res) : PyData := .tuple (rs.map Res.d)
structure Leg where
  door : Int
  st : Int
  rule : Option Nat
  bran : Option Int
  next : Option Int
def Leg.d (l : Leg) : PyData := .tuple [.int l.door, .int l.st, optN l.rule, optI l.bran, optI l.next]
def legStep (R : Rob) (s : Str) (G : List (List Res)) (x : Int × Int) : Leg × (Res ⊕ (Int × Int)) :=
  let rule := ruleOf (R.getD x.2.toNat []) s (1 + (G.length : Nat))
  match deedOf (R.getD x.2.toNat []) rule with
  | .stop w => (⟨x.1, x.2, rule, none, none⟩, .inl (.stop w))
  | .go a b =>
    let out := (x.1 + a) % (1 + (G.length : Nat))
    if out = 0 then (⟨x.1, x.2, rule, none, some b⟩, .inl (.out b)) else
    (⟨x.1, x.2, rule, some (out - 1), some b⟩, match (G.getD (out - 1).toNat []).getD b.toNat default with
      | .out k => .inr (out, k)
      | r => .inl r)
def run (R : Rob) (s : Str) (G : List (List Res)) : Nat → List (Int × Int) → List Leg → Int × Int → List Leg × Res × Option Nat
  | 0, _, ls, _ => (ls, .ever, none)
  | f + 1, seen, ls, x => if x ∈ seen then (ls, .ever, some (seen.idxOf x)) else
    match (legStep R s G x).2 with
    | .inl r => (ls ++ [(legStep R s G x).1], r, none)
    | .inr y => run R s G f (seen ++ [x]) (ls ++ [(legStep R s G x).1]) y
theorem deed_filter (s : Str) (q : Int) : ∀ rs : List Rl, deedOf rs (ruleOf rs s q) = match rs.filter (Rl.fits s q) with
    | [] => .stop "lost"
    | r :: _ => r.dd
  | [] => rfl
  | r :: rs => by
    have ih := deed_filter s q rs
    unfold ruleOf at ih ⊢
    rw [List.findIdx?_cons]
    by_cases f : r.fits s q = true
    · rw [if_pos f, List.filter_cons_of_pos f]
      rfl
    · rw [if_neg f, List.filter_cons_of_neg f, ← ih]
      cases List.findIdx? (Rl.fits s q) rs with
      | none => rfl
      | some i => rfl
def Deed.Wf (n : Nat) : Deed → Prop
  | .stop w => Tx 20 w
  | .go a b => 0 ≤ a ∧ a ≤ 2 ∧ 0 ≤ b ∧ b < n
structure Rl.Wf (n : Nat) (r : Rl) : Prop where
  sg : ∀ s, r.sg = some s → Tx 20 s
  dr : ∀ k, r.dr = some k → 1 ≤ k ∧ k ≤ 3
  dd : r.dd.Wf n
structure RobWf (R : Rob) : Prop where
  one : 1 ≤ R.length
  few : R.length ≤ 100
  st : ∀ rs ∈ R, rs.length ≤ 6 ∧ ∀ r ∈ rs, r.Wf R.length
def Res.Wf (n : Nat) : Res → Prop
  | .out k => 0 ≤ k ∧ k < n
  | .ever => True
  | .stop w => Tx 20 w
theorem deedOf_wf {R : Rob} (h : RobWf R) {st : Int} (h0 : 0 ≤ st) (h1 : st < R.length) (s : Str) (q : Int) : (deedOf (R.getD st.toNat []) (ruleOf (R.getD st.toNat []) s q)).Wf R.length := by
  cases e : ruleOf (R.getD st.toNat []) s q with
  | none => exact Tx.lit
  | some i =>
    have hm : R.getD st.toNat [] ∈ R := getD_mem (by omega)
    have hi : i < (R.getD st.toNat []).length := by
      unfold ruleOf at e
      exact (List.findIdx?_eq_some_iff_getElem.mp e).1
    exact ((h.st _ hm).2 _ (getD_mem hi)).dd
end PD
namespace PD
open PySem PySem.Spec PyProof.Rows L2
def pk (p : List Int) : PyData := .tuple (p.map .int)
theorem toKeys_ints : ∀ p : List Int, toKeys (p.map .int) = some (p.map NestedKey.num)
  | [] => rfl
  | i :: p => by
    rw [List.map_cons, toKeys, toKeys_ints p]
    rfl
theorem depth_nums : ∀ p : List Int, NestedKey.depthAll (p.map NestedKey.num) = 0
  | [] => rfl
  | i :: p => by
    rw [List.map_cons, NestedKey.depthAll, depth_nums p]
    rfl
theorem toKey_pk (p : List Int) : toKey (pk p) = some (.tup (p.map NestedKey.num)) := by
  unfold pk
  rw [toKey, toKeys_ints]
  rfl
theorem nums_inj : ∀ {p q : List Int}, p.map NestedKey.num = q.map NestedKey.num → p = q
  | [], [], _ => rfl
  | [], _ :: _, h => by simp at h
  | _ :: _, [], h => by simp at h
  | i :: p, j :: q, h => by
    rw [List.map_cons, List.map_cons, List.cons.injEq] at h
    have h1 := h.1
    cases h1
    rw [nums_inj h.2]
theorem pk_enc : Enc pk := ⟨fun _ => rfl, fun p => by
  have e := toKey_pk p
  simp only [keyT, e, NestedKey.depth, depth_nums]
  rfl, fun p q h => by
  rw [toKey_pk, toKey_pk] at h
  simp only [Option.some.injEq, NestedKey.tup.injEq] at h
  exact nums_inj h⟩
theorem ixT_last {S : Store} {ds : List PyData} {x : PyData} : ixV (.d (.tuple (ds ++ [x]))) (.d (.int (-1))) S = .ok (.d x) S := by
  have := ix_last (S := S) (ds := ds) (x := x)
  exact this
structure Std where
  path : List Int
  door : Int
  st : Int
deriving DecidableEq
def Std.d (x : Std) : PyData := .tuple [pk x.path, .int x.door, .int x.st]
theorem std_enc : Enc Std.d := ⟨fun _ => rfl, fun x => by
  have e := toKey_pk x.path
  simp only [Std.d, keyT, toKey, toKeys, e, Option.bind_some, Option.map_some, NestedKey.depth, NestedKey.depthAll, depth_nums]
  rfl, fun x y h => by
  simp only [Std.d, toKey, toKeys, toKey_pk, Option.bind_some, Option.map_some, Option.some.injEq, NestedKey.tup.injEq, List.cons.injEq, NestedKey.num.injEq, and_true] at h
  obtain ⟨h1, h2, h3⟩ := h
  have := nums_inj h1
  cases x
  cases y
  simp_all⟩
def gStep (R : Rob) (s : Str) (q : Int) (x : Std) : Option Nat × (Res ⊕ Std) :=
  let rule := ruleOf (R.getD x.st.toNat []) s q
  (rule, match deedOf (R.getD x.st.toNat []) rule with
  | .stop w => .inl (.stop w)
  | .go a b => if 0 < (x.door + a) % q then .inr ⟨x.path ++ [(x.door + a) % q], 0, b⟩ else match x.path.getLast? with
    | none => .inl (.out b)
    | some k => .inr ⟨x.path.dropLast, k, b⟩)
namespace Maze
mutual
theorem rooms_nodup : ∀ (p : List Int) (m : Maze), ((rooms p m).map (·.1)).Nodup
  | p, .mk s bs => by
    rw [rooms, List.map_cons, List.nodup_cons]
    refine ⟨fun h => ?_, roomsL_nodup p 1 bs⟩
    obtain ⟨q, hq, e⟩ := List.mem_map.mp h
    obtain ⟨i, m, r, e2, _, _⟩ := roomsL_at p 1 bs q hq
    rw [e] at e2
    have := congrArg List.length e2
    simp at this
theorem roomsL_nodup : ∀ (p : List Int) (k : Int) (bs : List Maze), ((roomsL p k bs).map (·.1)).Nodup
  | _, _, [] => by rw [roomsL]; exact List.nodup_nil
  | p, k, b :: bs => by
    rw [roomsL, List.map_append, List.nodup_append]
    refine ⟨rooms_nodup (p ++ [k]) b, roomsL_nodup p (k + 1) bs, fun x hx y hy e => ?_⟩
    subst e
    obtain ⟨q, hq, e1⟩ := List.mem_map.mp hx
    obtain ⟨q2, hq2, e2⟩ := List.mem_map.mp hy
    obtain ⟨r, h1, _⟩ := rooms_at (p ++ [k]) b q hq
    obtain ⟨i, _, r2, h2, _, _⟩ := roomsL_at p (k + 1) bs q2 hq2
    rw [← e1, h1] at e2
    rw [h2, List.append_assoc, List.append_assoc] at e2
    have := List.append_cancel_left e2
    simp at this
    omega
end
end Maze
namespace Maze
structure Bag (m : Maze) (k : Nat) (st fd : List (List Int × Maze)) : Prop where
  out : (fd ++ st.flatMap fun q => rooms q.1 q.2).Perm (rooms [] m)
  cnt : (st.map fun q => q.2.size).sum = k
  all : ∀ q ∈ st, q.1.length + q.2.size ≤ m.size
theorem Bag.start (m : Maze) : Bag m m.size [([], m)] [] := ⟨by simp, by simp, by simp⟩
theorem doors_mem (p : List Int) : ∀ (k : Int) (bs : List Maze), ∀ q ∈ doorsL p k bs, q.1.length = p.length + 1 ∧ q.2 ∈ bs ∧ q.2.size ≤ sizes bs
  | _, [], q, h => by rw [doorsL] at h; cases h
  | k, b :: bs, q, h => by
    rw [doorsL] at h
    rcases List.mem_cons.mp h with rfl | h
    · exact ⟨by simp, List.mem_cons_self, by rw [sizes]; exact Nat.le_add_right _ _⟩
    · obtain ⟨a, b', c⟩ := doors_mem p (k + 1) bs q h
      exact ⟨a, List.mem_cons_of_mem _ b', by rw [sizes]; omega⟩
theorem doors_size (p : List Int) : ∀ (k : Int) (bs : List Maze), ((doorsL p k bs).map fun q => q.2.size).sum = sizes bs
  | _, [] => by rw [doorsL, sizes]; rfl
  | k, b :: bs => by rw [doorsL, sizes, List.map_cons, List.sum_cons, doors_size p (k + 1) bs]
theorem Bag.step {m : Maze} {k : Nat} {st fd : List (List Int × Maze)} {p : List Int} {s : Str} {bs : List Maze} (h : Bag m k (st ++ [(p, .mk s bs)]) fd) : ∃ j, j < k ∧ Bag m j (st ++ doorsL p 1 bs) (fd ++ [(p, .mk s bs)]) := by
  have e := h.cnt
  rw [List.map_append, List.sum_append, List.map_cons, List.map_nil, List.sum_cons, List.sum_nil, size] at e
  refine ⟨(st.map fun q => q.2.size).sum + sizes bs, by omega, ?_, by rw [List.map_append, List.sum_append, doors_size], fun q hq => ?_⟩
  rotate_left
  · rcases List.mem_append.mp hq with z | z
    · exact h.all q (List.mem_append_left _ z)
    · have a := h.all (p, .mk s bs) (List.mem_append_right _ List.mem_cons_self)
      obtain ⟨b, _, c⟩ := doors_mem p 1 bs q z
      rw [size] at a
      simp only at a
      omega
  refine List.Perm.trans ?_ h.out
  rw [List.flatMap_append, List.flatMap_append, List.flatMap_cons, List.flatMap_nil, List.append_nil, rooms, rooms_doors, List.append_assoc]
  refine List.Perm.append_left fd ?_
  exact (List.perm_middle (l₁ := st.flatMap fun q => rooms q.1 q.2) (a := (p, Maze.mk s bs)) (l₂ := (doorsL p 1 bs).flatMap fun q => rooms q.1 q.2)).symm
theorem Bag.fresh {m : Maze} {k : Nat} {st fd : List (List Int × Maze)} {q : List Int × Maze} (h : Bag m k (st ++ [q]) fd) : ∀ x ∈ fd, x.1 ≠ q.1 := fun x hx e => by
  have nd := (h.out.map (·.1)).nodup_iff.mpr (rooms_nodup [] m)
  rw [List.map_append, List.nodup_append] at nd
  refine nd.2.2 x.1 (List.mem_map_of_mem hx) q.1 ?_ e
  obtain ⟨p, mz⟩ := q
  rw [List.flatMap_append, List.map_append]
  refine List.mem_append_right _ ?_
  cases mz with
  | mk s bs =>
    rw [List.flatMap_cons, rooms]
    simp
end Maze
end PD
namespace PD
open PySem PySem.Spec PyProof.Rows L2
mutual
def wt : PyData → Nat
  | .none => 5
  | .bool _ => 5
  | .int i => (toString i).length
  | .str x => 10 * x.length + 2
  | .list xs => 3 + wts xs
  | .tuple xs => 3 + wts xs
  | .dict kvs => 3 + wtk kvs
def wts : List PyData → Nat
  | [] => 0
  | x :: xs => wt x + 2 + wts xs
def wtk : List (PyData × PyData) → Nat
  | [] => 0
  | (k, v) :: r => wt k + wt v + 4 + wtk r
end
mutual
def fine : PyData → Prop
  | .none => True
  | .bool _ => True
  | .int i => i.natAbs.log2 < 1920
  | .str x => ∀ c ∈ x.cps.toList, c < 1114112
  | .list xs => fines xs
  | .tuple xs => fines xs
  | .dict kvs => finek kvs
def fines : List PyData → Prop
  | [] => True
  | x :: xs => fine x ∧ fines xs
def finek : List (PyData × PyData) → Prop
  | [] => True
  | (k, v) :: r => fine k ∧ fine v ∧ finek r
end
mutual
theorem fine_ok : ∀ {d : PyData}, fine d → d.showable = true
  | .none, _ => rfl
  | .bool _, _ => rfl
  | .int i, h => by simpa [PyData.showable, fine] using h
  | .str _, _ => rfl
  | .list xs, h => fines_ok (ds := xs) h
  | .tuple xs, h => fines_ok (ds := xs) h
  | .dict kvs, h => finek_ok (ds := kvs) h
theorem fines_ok : ∀ {ds : List PyData}, fines ds → PyData.showableAll ds = true
  | [], _ => rfl
  | x :: xs, h => by
    simp only [PyData.showableAll, fine_ok h.1, fines_ok h.2, Bool.and_self]
theorem finek_ok : ∀ {ds : List (PyData × PyData)}, finek ds → PyData.showableKv ds = true
  | [], _ => rfl
  | (k, v) :: r, h => by
    simp only [PyData.showableKv, fine_ok h.1, fine_ok h.2.1, finek_ok h.2.2, Bool.and_self]
end
def sumL (ts : List Str) : Nat := (ts.map fun t : Str => t.length + 2).sum
theorem join_sum : ∀ (ts : List Str), (Str.join ", " ts).length ≤ sumL ts
  | [] => Nat.zero_le _
  | [t] => by
    show t.length ≤ _
    simp [sumL]
  | t :: u :: r => by
    have ih := join_sum (u :: r)
    show (t ++ ", " ++ Str.join ", " (u :: r)).length ≤ _
    have l0 : (", " : Str).length = 2 := rfl
    rw [Str.length_append, Str.length_append, l0]
    have : sumL (t :: u :: r) = t.length + 2 + sumL (u :: r) := by simp [sumL]
    omega
theorem textFrom_le : ∀ (ts : List Str) (k : Nat) (acc : Str), (textFrom k acc ts).length ≤ acc.length + sumL ts
  | [], k, acc => Nat.le_refl _
  | t :: r, k, acc => by
    have h := textFrom_le r (k + 1) (acc ++ (if k > 0 then ", " else "" : String) ++ t)
    have e : sumL (t :: r) = t.length + 2 + sumL r := by simp [sumL]
    show (textFrom (k + 1) (acc ++ (if k > 0 then ", " else "" : String) ++ t) r).length ≤ _
    have l : (Str.ofString (if k > 0 then ", " else "" : String)).length ≤ 2 := by
      by_cases q : k > 0
      · rw [if_pos q]; decide
      · rw [if_neg q]; decide
    rw [Str.length_append, Str.length_append] at h
    omega
theorem listText_len (ts : List Str) : (listText ts).length ≤ 3 + sumL ts := by
  have := textFrom_le ts 0 "["
  unfold listText
  have l1 : ("[" : Str).length = 1 := rfl
  have l2 : ("]" : Str).length = 1 := rfl
  rw [Str.length_append, l2]
  omega
theorem tupleText_len (ts : List Str) : (tupleText ts).length ≤ 3 + sumL ts := by
  have := join_sum ts
  show (("(" : Str) ++ Str.join ", " ts ++ (if ts.length == 1 then ",)" else ")" : String)).length ≤ _
  have l1 : ("(" : Str).length = 1 := rfl
  have l2 : (Str.ofString (if ts.length == 1 then ",)" else ")" : String)).length ≤ 2 := by
    by_cases q : (ts.length == 1) = true
    · rw [if_pos q]; decide
    · rw [if_neg q]; decide
  rw [Str.length_append, Str.length_append, l1]
  omega
theorem dictText_len (ts : List Str) : (dictText ts).length ≤ 3 + sumL ts := by
  have := join_sum ts
  show (("{" : Str) ++ Str.join ", " ts ++ "}").length ≤ _
  have l1 : ("{" : Str).length = 1 := rfl
  have l2 : ("}" : Str).length = 1 := rfl
  rw [Str.length_append, Str.length_append, l1, l2]
  omega
mutual
theorem shown_len : ∀ {d : PyData}, fine d → d.shown.length ≤ wt d
  | .none, _ => by decide
  | .bool b, _ => by cases b <;> decide
  | .int i, _ => by
    show (Str.ofString (toString i)).length ≤ (toString i).length
    rw [PySem.ofString_length]
    exact Nat.le_refl _
  | .str x, h => Tx.repr (n := x.length) ⟨Nat.le_refl _, h⟩
  | .list xs, h => by
    have := shownAll_len (ds := xs) h
    have l := listText_len (PyData.shownAll xs)
    show (listText (PyData.shownAll xs)).length ≤ 3 + wts xs
    omega
  | .tuple xs, h => by
    have := shownAll_len (ds := xs) h
    have l := tupleText_len (PyData.shownAll xs)
    show (tupleText (PyData.shownAll xs)).length ≤ 3 + wts xs
    omega
  | .dict kvs, h => by
    have := shownKv_len (ds := kvs) h
    have l := dictText_len (PyData.shownKv kvs)
    show (dictText (PyData.shownKv kvs)).length ≤ 3 + wtk kvs
    omega
theorem shownAll_len : ∀ {ds : List PyData}, fines ds → sumL (PyData.shownAll ds) ≤ wts ds
  | [], _ => Nat.zero_le _
  | x :: xs, h => by
    have a := shown_len (d := x) h.1
    have b := shownAll_len (ds := xs) h.2
    have : sumL (PyData.shownAll (x :: xs)) = x.shown.length + 2 + sumL (PyData.shownAll xs) := by simp [sumL, PyData.shownAll]
    simp only [wts]
    omega
theorem shownKv_len : ∀ {ds : List (PyData × PyData)}, finek ds → sumL (PyData.shownKv ds) ≤ wtk ds
  | [], _ => Nat.zero_le _
  | (k, v) :: r, h => by
    have a := shown_len (d := k) h.1
    have b := shown_len (d := v) h.2.1
    have c := shownKv_len (ds := r) h.2.2
    have l0 : (": " : Str).length = 2 := rfl
    have : sumL (PyData.shownKv ((k, v) :: r)) = (k.shown ++ ": " ++ v.shown).length + 2 + sumL (PyData.shownKv r) := by simp [sumL, PyData.shownKv]
    rw [this, Str.length_append, Str.length_append, l0]
    simp only [wtk]
    omega
end
structure Wd (k n : Nat) (d : PyData) : Prop where
  ok : fine d
  dp : d.depth ≤ k
  ln : wt d ≤ n
structure Wds (k n : Nat) (ds : List PyData) : Prop where
  ok : fines ds
  dp : PyData.depthAll ds ≤ k
  ln : wts ds ≤ n
theorem Wd.mono {k k' n n' : Nat} {d : PyData} (h : Wd k n d) (a : k ≤ k') (b : n ≤ n') : Wd k' n' d := ⟨h.ok, Nat.le_trans h.dp a, Nat.le_trans h.ln b⟩
theorem Wds.mono {k k' n n' : Nat} {d : List PyData} (h : Wds k n d) (a : k ≤ k') (b : n ≤ n') : Wds k' n' d := ⟨h.ok, Nat.le_trans h.dp a, Nat.le_trans h.ln b⟩
theorem Wd.reprOk {k n : Nat} {d : PyData} (h : Wd k n d) (hk : k ≤ 180 := by omega) (hn : n ≤ 16777216 := by omega) : reprOkD d = true := by
  have sz : sizeLine = 16777216 := sizeLine_eq
  have := shown_len h.ok
  have h1 := h.ln
  have h2 := h.dp
  simp only [reprOkD, fine_ok h.ok, Bool.true_and, Bool.and_eq_true, decide_eq_true_eq]
  exact ⟨by omega, by omega⟩
theorem Wd.repr {k n : Nat} {d : PyData} {S : Store} (h : Wd k n d) (hk : k ≤ 180 := by omega) (hn : n ≤ 16777216 := by omega) : reprVD [.d d] S = .ok (.d (.str d.shown)) S := by
  show (if reprOkD d = true then Rs.ok (SV.d (.str d.shown)) S else .bad) = _
  rw [if_pos (h.reprOk hk hn)]
section
variable {k n m : Nat} {d e : PyData} {ds es : List PyData}
theorem Wd.none : Wd k (n + 5) .none := ⟨trivial, Nat.zero_le _, by simp only [wt]; omega⟩
theorem Wd.bool {b : Bool} : Wd k (n + 5) (.bool b) := ⟨trivial, Nat.zero_le _, by simp only [wt]; omega⟩
theorem Wd.int {i : Int} (h : i.natAbs < 10 ^ m) (l : m + 1 ≤ n := by decide) (hm : 0 < m := by decide) (hk : m ≤ 400 := by decide) : Wd k n (.int i) :=
  ⟨log2_small h hk, Nat.zero_le _, Nat.le_trans (int_text_length_le10 hm h) l⟩
theorem Wd.str {s : Str} (h : Tx m s) (l : 10 * m + 2 ≤ n := by omega) : Wd k n (.str s) := ⟨h.2, Nat.zero_le _, by have := h.1; simp only [wt]; omega⟩
theorem Wd.tup (h : Wds k n ds) : Wd (k + 1) (n + 3) (.tuple ds) := ⟨h.ok, by have := h.dp; simp only [PyData.depth]; omega, by have := h.ln; simp only [wt]; omega⟩
theorem Wd.lst (h : Wds k n ds) : Wd (k + 1) (n + 3) (.list ds) := ⟨h.ok, by have := h.dp; simp only [PyData.depth]; omega, by have := h.ln; simp only [wt]; omega⟩
theorem Wd.dict0 : Wd (k + 1) (n + 3) (.dict []) := ⟨trivial, by simp [PyData.depth, PyData.depthKv], by simp only [wt, wtk]; omega⟩
theorem Wds.nil : Wds k n [] := ⟨trivial, by simp [PyData.depthAll], Nat.zero_le _⟩
theorem Wds.cons (h : Wd k n d) (t : Wds k m ds) : Wds k (n + m + 2) (d :: ds) := by
  have a := h.dp
  have b := h.ln
  have c := t.dp
  have e := t.ln
  exact ⟨⟨h.ok, t.ok⟩, by simp only [PyData.depthAll]; omega, by simp only [wts]; omega⟩
theorem Wds.head (h : Wds k n (d :: ds)) : Wd k n d := by
  have c := h.dp
  have e := h.ln
  simp only [PyData.depthAll] at c
  simp only [wts] at e
  exact ⟨h.ok.1, by omega, by omega⟩
theorem Wds.tail (h : Wds k n (d :: ds)) : Wds k n ds := by
  have c := h.dp
  have e := h.ln
  simp only [PyData.depthAll] at c
  simp only [wts] at e
  exact ⟨h.ok.2, by omega, by omega⟩
theorem Wds.mem : ∀ {ds : List PyData}, Wds k n ds → d ∈ ds → Wd k n d
  | x :: xs, h, m => by
    rcases List.mem_cons.mp m with rfl | m
    · exact h.head
    · exact Wds.mem h.tail m
theorem wts_app : ∀ (ds es : List PyData), wts (ds ++ es) = wts ds + wts es
  | [], es => by simp [wts]
  | x :: xs, es => by simp only [List.cons_append, wts, wts_app xs es]; omega
theorem fines_app : ∀ {ds es : List PyData}, fines (ds ++ es) ↔ fines ds ∧ fines es
  | [], es => by simp [fines]
  | x :: xs, es => by simp only [List.cons_append, fines, fines_app (ds := xs) (es := es), and_assoc]
theorem depthAll_app : ∀ (ds es : List PyData), PyData.depthAll (ds ++ es) = max (PyData.depthAll ds) (PyData.depthAll es)
  | [], es => by simp [PyData.depthAll]
  | x :: xs, es => by simp only [List.cons_append, PyData.depthAll, depthAll_app xs es]; omega
theorem Wds.app (h : Wds k n ds) (t : Wds k m es) : Wds k (n + m) (ds ++ es) := by
  have a := h.dp
  have b := h.ln
  have c := t.dp
  have e := t.ln
  exact ⟨fines_app.mpr ⟨h.ok, t.ok⟩, by rw [depthAll_app]; omega, by rw [wts_app]; omega⟩
theorem Wds.left (h : Wds k n (ds ++ es)) : Wds k n ds := by
  have a := h.dp
  have b := h.ln
  rw [depthAll_app] at a
  rw [wts_app] at b
  exact ⟨(fines_app.mp h.ok).1, by omega, by omega⟩
theorem Wds.right (h : Wds k n (ds ++ es)) : Wds k n es := by
  have a := h.dp
  have b := h.ln
  rw [depthAll_app] at a
  rw [wts_app] at b
  exact ⟨(fines_app.mp h.ok).2, by omega, by omega⟩
theorem Wds.take (h : Wds k n ds) (i : Nat) : Wds k n (ds.take i) := Wds.left (es := ds.drop i) (by rw [List.take_append_drop]; exact h)
theorem Wds.drop (h : Wds k n ds) (i : Nat) : Wds k n (ds.drop i) := Wds.right (ds := ds.take i) (by rw [List.take_append_drop]; exact h)
theorem Wds.cut (h : Wds k n ds) (i j : Option Int) : Wds k n (cutD ds i j) := by
  unfold cutD
  exact (h.drop _).take _
theorem Wds.len (h : Wds k n ds) : 2 * ds.length ≤ n := by
  have : ∀ ds : List PyData, 2 * ds.length ≤ wts ds := fun ds => by
    induction ds with
    | nil => simp [wts]
    | cons x xs ih => simp only [List.length_cons, wts]; omega
  have := this ds
  have := h.ln
  omega
theorem Wd.items (h : Wd k n (.tuple ds)) : Wds k n ds := by
  have a := h.dp
  have b := h.ln
  simp only [PyData.depth] at a
  simp only [wt] at b
  exact ⟨h.ok, by omega, by omega⟩
theorem Wd.tx {s : Str} (h : Wd k n (.str s)) : Tx n s := ⟨by have := h.ln; simp only [wt] at this; omega, h.ok⟩
theorem Wds.of (h : ∀ d ∈ ds, Wd k m d) : Wds k (ds.length * (m + 2)) ds := by
  induction ds with
  | nil => exact Wds.nil
  | cons x xs ih =>
    have a := h x List.mem_cons_self
    have b := ih fun d hd => h d (List.mem_cons_of_mem _ hd)
    rw [List.length_cons, Nat.succ_mul]
    exact (Wds.cons a b).mono (Nat.le_refl _) (by omega)
theorem Wd.t1 {d1 : PyData} {a : Nat} (h1 : Wd k a d1) (l : a + 5 ≤ n := by omega) : Wd (k + 1) n (.tuple [d1]) :=
  (Wd.tup (Wds.cons h1 (Wds.nil (n := 0)))).mono (Nat.le_refl _) (by omega)
theorem Wd.t2 {d1 d2 : PyData} {a b : Nat} (h1 : Wd k a d1) (h2 : Wd k b d2) (l : a + b + 7 ≤ n := by omega) : Wd (k + 1) n (.tuple [d1, d2]) :=
  (Wd.tup (Wds.cons h1 (Wds.cons h2 (Wds.nil (n := 0))))).mono (Nat.le_refl _) (by omega)
theorem Wd.t3 {d1 d2 d3 : PyData} {a b c : Nat} (h1 : Wd k a d1) (h2 : Wd k b d2) (h3 : Wd k c d3) (l : a + b + c + 9 ≤ n := by omega) : Wd (k + 1) n (.tuple [d1, d2, d3]) :=
  (Wd.tup (Wds.cons h1 (Wds.cons h2 (Wds.cons h3 (Wds.nil (n := 0)))))).mono (Nat.le_refl _) (by omega)
theorem Wd.t4 {d1 d2 d3 d4 : PyData} {a b c e : Nat} (h1 : Wd k a d1) (h2 : Wd k b d2) (h3 : Wd k c d3) (h4 : Wd k e d4) (l : a + b + c + e + 11 ≤ n := by omega) : Wd (k + 1) n (.tuple [d1, d2, d3, d4]) :=
  (Wd.tup (Wds.cons h1 (Wds.cons h2 (Wds.cons h3 (Wds.cons h4 (Wds.nil (n := 0))))))).mono (Nat.le_refl _) (by omega)
theorem Wds.map {α : Type} {f : α → PyData} {xs : List α} {a : Nat} (h : ∀ x ∈ xs, Wd k a (f x)) (j : Nat) (hl : xs.length ≤ j) (l : j * (a + 2) ≤ n := by omega) : Wds k n (xs.map f) := by
  have := Wds.of (ds := xs.map f) (k := k) (m := a) fun d hd => by
    obtain ⟨r, hr, rfl⟩ := List.mem_map.mp hd
    exact h r hr
  rw [List.length_map] at this
  exact this.mono (Nat.le_refl _) (Nat.le_trans (Nat.mul_le_mul_right _ hl) l)
theorem Wd.tmap {α : Type} {f : α → PyData} {xs : List α} {a : Nat} (h : ∀ x ∈ xs, Wd k a (f x)) (j : Nat) (hl : xs.length ≤ j) (l : j * (a + 2) + 3 ≤ n := by omega) : Wd (k + 1) n (.tuple (xs.map f)) :=
  (Wd.tup (Wds.map h j hl (Nat.le_refl _))).mono (Nat.le_refl _) l
theorem Wd.lit {s : String} (l : 10 * s.length + 2 ≤ n := by decide) : Wd k n (.str (Str.ofString s)) := Wd.str (Tx.of s) l
theorem Wd.small {i : Int} (h : i.natAbs < 1000) (l : 4 ≤ n := by omega) : Wd k n (.int i) := (Wd.int (k := k) (n := 4) (m := 3) h).mono (Nat.le_refl _) l
end
end PD
namespace PD
open PySem PySem.Spec PyProof.Rows L2
theorem ssat_each {α : Type} {enc : α → SV} {g : GM} {m : SM} {p : Po} {ys : List α} {fr : Fr} {S : Store} (I : List α → Fr → Store → Prop) (h0 : I [] fr S)
    (hs : ∀ done y rest, ys = done ++ y :: rest → ∀ fr S, I done fr S → ∃ fr1, g (enc y) fr = some fr1 ∧ (m fr1 S).sat ⟨I (done ++ [y]), p.nx, I (done ++ [y]), p.rt, p.ex⟩)
    (hf : ∀ fr S, I ys fr S → p.nx fr S) : (forF g m (ys.map enc) fr S).sat p := by
  refine ssat_for (fun k => I (ys.take k)) 0 (by simpa using h0) (fun k x fr S e h => ?_) fun fr S h => hf fr S ?_
  · rw [Nat.zero_add] at h ⊢
    rw [List.getElem?_map] at e
    obtain ⟨y, hy, rfl⟩ := Option.map_eq_some_iff.mp e
    obtain ⟨hl, rfl⟩ := List.getElem?_eq_some_iff.mp hy
    have := hs (ys.take k) ys[k] (ys.drop (k + 1)) (by rw [← List.drop_eq_getElem_cons hl, List.take_append_drop]) fr S h
    rw [List.take_succ_eq_append_getElem hl]
    exact this
  · rw [List.length_map, Nat.zero_add, List.take_length] at h
    exact h
theorem inV_tup {neg : Bool} {x : PyData} {ds : List PyData} {S : Store} : PD.inV neg (.d x) (.d (.tuple ds)) S = if inOk x ds = true then .ok (.d (.bool (neg ^^ ds.any fun y => PyData.eqv y x))) S else .bad := by cases x <;> rfl
theorem inV_lst {neg : Bool} {x : PyData} {ds : List PyData} {S : Store} : PD.inV neg (.d x) (.d (.list ds)) S = if inOk x ds = true then .ok (.d (.bool (neg ^^ ds.any fun y => PyData.eqv y x))) S else .bad := by cases x <;> rfl
inductive Lits : List PyData → Prop
  | nil : Lits []
  | str {s : String} {ds : List PyData} : Lits ds → Lits (.str (Str.ofString s) :: ds)
  | int {i : Int} {ds : List PyData} : Lits ds → Lits (.int i :: ds)
  | non {ds : List PyData} : Lits ds → Lits (.none :: ds)
theorem Lits.ok : ∀ {ds : List PyData}, Lits ds → PyData.canLayAll0 ds = true ∧ PyData.depthAll ds = 0
  | _, .nil => ⟨rfl, rfl⟩
  | _, .str h => by
    obtain ⟨a, b⟩ := h.ok
    exact ⟨by rw [PyData.canLayAll0, a, Tx.strOk (Tx.of _)]; rfl, by rw [PyData.depthAll, b]; rfl⟩
  | _, .int h => by
    obtain ⟨a, b⟩ := h.ok
    exact ⟨by rw [PyData.canLayAll0, a]; rfl, by rw [PyData.depthAll, b]; rfl⟩
  | _, .non h => by
    obtain ⟨a, b⟩ := h.ok
    exact ⟨by rw [PyData.canLayAll0, a]; rfl, by rw [PyData.depthAll, b]; rfl⟩
theorem ixT3 {S : Store} {x y z w : PyData} {xs : List PyData} : ixV (.d (.tuple (x :: y :: z :: w :: xs))) (.d (.int 3)) S = .ok (.d w) S := by
  have e : L2.atI (x :: y :: z :: w :: xs) 3 = some w := by
    unfold L2.atI ixN
    rw [if_pos (by decide), if_pos (by simp only [List.length_cons]; omega)]
    rfl
  simp only [ixV, e]
theorem ix_get {ds : List PyData} {i : Int} {S : Store} (h0 : 0 ≤ i) (h1 : i < ds.length) : ixV (.d (.tuple ds)) (.d (.int i)) S = .ok (.d (ds[i.toNat]'(by omega))) S := by
  have hi : i.toNat < ds.length := by omega
  have e : L2.atI ds i = some ds[i.toNat] := by
    unfold L2.atI ixN
    rw [if_pos h0, if_pos h1]
    exact List.getElem?_eq_getElem hi
  simp only [ixV, e]
theorem ix_getL {ds : List PyData} {i : Int} {S : Store} (h0 : 0 ≤ i) (h1 : i < ds.length) : ixV (.d (.list ds)) (.d (.int i)) S = .ok (.d (ds[i.toNat]'(by omega))) S := by
  have hi : i.toNat < ds.length := by omega
  have e : L2.atI ds i = some ds[i.toNat] := by
    unfold L2.atI ixN
    rw [if_pos h0, if_pos h1]
    exact List.getElem?_eq_getElem hi
  simp only [ixV, e]
theorem cutD_tail {x : PyData} {xs : List PyData} : cutD (x :: xs) (some 1) none = xs := by
  unfold cutD
  simp [HT.sIx]
theorem eqv_str {a b : Str} : PyData.eqv (.str a) (.str b) = decide (b = a) := by
  simp only [PyData.eqv]
  rw [Bool.eq_iff_iff, beq_iff_eq, decide_eq_true_iff]
  exact eq_comm
theorem eqv_int {a b : Int} : PyData.eqv (.int a) (.int b) = decide (b = a) := by
  simp only [PyData.eqv]
  rw [Bool.eq_iff_iff, beq_iff_eq, decide_eq_true_iff]
  exact eq_comm
theorem eqV_nilT {neg : Bool} {ds : List PyData} {S : Store} : PD.eqV neg (.d (.tuple ds)) (.d (.tuple [])) S = .ok (.d (.bool (neg ^^ ds.isEmpty))) S := by
  have e : eqOk (.tuple ds) (.tuple []) = true := by
    cases ds with
    | nil => rfl
    | cons d ds => simp [eqOk, lstDiff]
  show (if eqOk (.tuple ds) (.tuple []) = true then Rs.ok (SV.d (.bool (neg ^^ PyData.eqv (.tuple ds) (.tuple [])))) S else .bad) = _
  rw [if_pos e]
  cases ds <;> rfl
mutual
theorem Maze.fine_d : ∀ {m : Maze}, m.Wf → fine m.d
  | .mk s bs, h => by
    rw [Maze.d]
    exact ⟨h.sn.tx.2, Maze.fine_ds (by rw [Maze.Wf] at h; exact h.2.2), trivial⟩
theorem Maze.fine_ds : ∀ {bs : List Maze}, Maze.Wfs bs → fines (Maze.ds bs)
  | [], _ => by rw [Maze.ds]; exact trivial
  | b :: bs, h => by
    rw [Maze.Wfs] at h
    rw [Maze.ds]
    exact ⟨Maze.fine_d h.1, Maze.fine_ds h.2⟩
end
mutual
theorem Maze.wt_d : ∀ {m : Maze}, m.Wf → wt m.d + 2 ≤ 94 * m.size
  | .mk s bs, h => by
    have h1 := Maze.wt_ds (by rw [Maze.Wf] at h; exact h.2.2 : Maze.Wfs bs)
    have h2 := h.sn.tx.1
    rw [Maze.d, Maze.size]
    simp only [wt, wts]
    omega
theorem Maze.wt_ds : ∀ {bs : List Maze}, Maze.Wfs bs → wts (Maze.ds bs) ≤ 94 * Maze.sizes bs
  | [], _ => by rw [Maze.ds]; exact Nat.zero_le _
  | b :: bs, h => by
    rw [Maze.Wfs] at h
    have h1 := Maze.wt_d h.1
    have h2 := Maze.wt_ds h.2
    rw [Maze.ds, Maze.sizes]
    simp only [wts]
    omega
end
theorem Maze.wd {m : Maze} (h : m.Wf) : Wd (2 * m.size) (94 * m.size) m.d := ⟨Maze.fine_d h, Maze.depth_le m, by have := Maze.wt_d h; omega⟩
end PD
namespace PD
open PySem PySem.Spec PyProof.Rows L2
theorem nodup_sub {α : Type} [DecidableEq α] : ∀ {l L : List α}, l.Nodup → (∀ x ∈ l, x ∈ L) → l.length ≤ L.length
  | [], L, _, _ => Nat.zero_le _
  | x :: l, L, nd, h => by
    rw [List.nodup_cons] at nd
    have := nodup_sub (l := l) (L := L.erase x) nd.2 fun y hy => (List.mem_erase_of_ne (fun e => nd.1 (by rw [← e]; exact hy))).mpr (h y (List.mem_cons_of_mem _ hy))
    rw [List.length_erase_of_mem (h x List.mem_cons_self)] at this
    have p := List.length_pos_of_mem (h x List.mem_cons_self)
    rw [List.length_cons]
    omega
namespace Maze
mutual
theorem at_rooms : ∀ (p r : List Int) (m : Maze) (b : Maze), at? m r = some b → (p ++ r, b) ∈ rooms p m
  | p, [], .mk s bs, b, h => by
    rw [at_nil] at h
    cases h
    rw [rooms, List.append_nil]
    exact List.mem_cons_self
  | p, k :: r, .mk s bs, b, h => by
    obtain ⟨m, k1, k2, e, h'⟩ := at_some h
    rw [rooms]
    refine List.mem_cons_of_mem _ ?_
    have := at_roomsL p 1 r bs (k - 1).toNat m b e h'
    rw [show (1 : Int) + ((k - 1).toNat : Nat) = k by omega] at this
    exact this
theorem at_roomsL : ∀ (p : List Int) (k : Int) (r : List Int) (bs : List Maze) (i : Nat) (m b : Maze), bs[i]? = some m → at? m r = some b → (p ++ (k + (i : Nat)) :: r, b) ∈ roomsL p k bs
  | p, k, r, [], i, m, b, e, h => by simp at e
  | p, k, r, a :: bs, 0, m, b, e, h => by
    simp at e
    subst e
    rw [roomsL]
    refine List.mem_append_left _ ?_
    have := at_rooms (p ++ [k]) r a b h
    simpa using this
  | p, k, r, a :: bs, i + 1, m, b, e, h => by
    rw [roomsL]
    refine List.mem_append_right _ ?_
    have := at_roomsL p (k + 1) r bs i m b (by simpa using e) h
    rw [show k + 1 + ((i : Nat) : Int) = k + ((i + 1 : Nat) : Int) by omega] at this
    exact this
end
theorem at_app : ∀ (p : List Int) {m : Maze} {q : List Int}, at? m (p ++ q) = (at? m p).bind fun b => at? b q
  | [], m, q => by rw [at_nil]; rfl
  | k :: p, .mk s bs, q => by
    rw [List.cons_append, at_cons, at_cons]
    by_cases h : 1 ≤ k ∧ k ≤ bs.length
    · rw [if_pos h, if_pos h]
      cases bs[(k - 1).toNat]? with
      | none => rfl
      | some b =>
        rw [Option.bind_some, Option.bind_some]
        exact at_app p
    · rw [if_neg h, if_neg h]
      rfl
theorem at_one {m b : Maze} {k : Int} (h : at? m [k] = some b) : 1 ≤ k ∧ k ≤ m.brs.length ∧ m.brs[(k - 1).toNat]? = some b := by
  cases m with
  | mk s bs =>
    obtain ⟨m, k1, k2, e, h'⟩ := at_some h
    rw [at_nil] at h'
    cases h'
    exact ⟨k1, k2, e⟩
theorem at_child {m b : Maze} {k : Int} (h1 : 1 ≤ k) (h2 : k ≤ m.brs.length) (e : m.brs[(k - 1).toNat]? = some b) : at? m [k] = some b := by
  cases m with
  | mk s bs =>
    rw [at_cons, if_pos ⟨h1, h2⟩]
    show (bs[(k - 1).toNat]?).bind _ = _
    rw [show bs[(k - 1).toNat]? = some b from e, Option.bind_some, at_nil]
theorem at_wf {m : Maze} : ∀ {p : List Int} {b : Maze}, m.Wf → at? m p = some b → b.Wf ∧ p.length + b.size ≤ m.size
  | [], b, w, h => by rw [at_nil] at h; cases h; exact ⟨w, by simp⟩
  | k :: p, b, w, h => by
    cases m with
    | mk s bs =>
      obtain ⟨m, k1, k2, e, h'⟩ := at_some h
      have hm := List.mem_of_getElem? e
      obtain ⟨a, c⟩ := at_wf (p := p) (w.mem hm) h'
      refine ⟨a, ?_⟩
      have : m.size ≤ sizes bs := by
        have : ∀ {bs : List Maze}, m ∈ bs → m.size ≤ sizes bs := fun {bs} => by
          induction bs with
          | nil => intro h; cases h
          | cons x xs ih =>
            intro h
            rw [sizes]
            rcases List.mem_cons.mp h with rfl | h
            · omega
            · have := ih h; omega
        exact this hm
      rw [size, List.length_cons]
      omega
end Maze
def rv (q : List Int × Maze) : List Int × PyData := (q.1, .tuple [.str q.2.sign, .int (1 + (q.2.brs.length : Nat))])
theorem find_room {m : Maze} {fd : List (List Int × Maze)} (h : fd.Perm (Maze.rooms [] m)) {p : List Int} {b : Maze} (e : Maze.at? m p = some b) : ((fd.map rv).find? fun y => decide (y.1 = p)).map (·.2) = some (.tuple [.str b.sign, .int (1 + (b.brs.length : Nat))]) := by
  have hm : (p, b) ∈ fd := h.mem_iff.mpr (by simpa using Maze.at_rooms [] p m b e)
  have nd : (fd.map (·.1)).Nodup := (h.map (·.1)).nodup_iff.mpr (Maze.rooms_nodup [] m)
  clear h e
  induction fd with
  | nil => cases hm
  | cons q fd ih =>
    rw [List.map_cons, List.find?_cons]
    rw [List.map_cons, List.nodup_cons] at nd
    by_cases z : q.1 = p
    · rw [show decide ((rv q).1 = p) = true from decide_eq_true z]
      rcases List.mem_cons.mp hm with e | e
      · rw [← e]; rfl
      · exact absurd (List.mem_map_of_mem e) (by rw [z] at nd; exact nd.1)
    · rw [show decide ((rv q).1 = p) = false from decide_eq_false z]
      rcases List.mem_cons.mp hm with e | e
      · rw [← e] at z; exact absurd rfl z
      · exact ih e nd.2
def wStep (m : Maze) (R : Rob) (x : Std) : Option Nat × (Res ⊕ Std) := match Maze.at? m x.path with
  | some r => gStep R r.sign (1 + (r.brs.length : Nat)) x
  | none => (none, .inl .ever)
def wRun (m : Maze) (R : Rob) : Nat → List Std → Std → Res × List Std
  | 0, seen, _ => (.ever, seen)
  | f + 1, seen, x => if x ∈ seen then (.ever, seen) else match (wStep m R x).2 with
    | .inl r => (r, seen ++ [x])
    | .inr y => wRun m R f (seen ++ [x]) y
def goOf (m : Maze) (R : Rob) (st : Int) : Res × List Std := wRun m R (3 * m.size * R.length + 1) [] ⟨[], 0, st⟩
structure Std.In (m : Maze) (R : Rob) (x : Std) : Prop where
  room : ∃ r, Maze.at? m x.path = some r ∧ 0 ≤ x.door ∧ x.door < 1 + (r.brs.length : Nat)
  s0 : 0 ≤ x.st
  s1 : x.st < R.length
theorem std_few {m : Maze} {R : Rob} (w : m.Wf) {l : List Std} (nd : l.Nodup) (h : ∀ x ∈ l, x.In m R) : l.length ≤ 3 * m.size * R.length := by
  let L : List Std := (Maze.rooms [] m).flatMap fun q => (List.range 3).flatMap fun d => (List.range R.length).map fun s => ⟨q.1, (d : Nat), (s : Nat)⟩
  have hl : L.length = 3 * m.size * R.length := by
    have : ∀ l : List (List Int × Maze), (l.flatMap fun q => (List.range 3).flatMap fun d => (List.range R.length).map fun s => (⟨q.1, (d : Nat), (s : Nat)⟩ : Std)).length = 3 * l.length * R.length := fun l => by
      induction l with
      | nil => simp
      | cons q l ih =>
        rw [List.flatMap_cons, List.length_append, ih]
        simp only [List.length_flatMap, List.length_map, List.length_range, List.length_cons]
        have : ∀ n : Nat, ((List.range 3).map fun _ => n).sum = 3 * n := fun n => by simp [List.range_succ]; omega
        rw [this]
        simp [Nat.mul_add, Nat.add_mul]
        omega
    rw [this, Maze.rooms_len]
  rw [← hl]
  refine nodup_sub nd fun x hx => ?_
  obtain ⟨⟨r, e, d0, d1⟩, s0, s1⟩ := h x hx
  have b3 : r.brs.length ≤ 2 := by
    have q := (Maze.at_wf w e).1
    cases r with
    | mk s bs => exact q.two
  refine List.mem_flatMap.mpr ⟨(x.path, r), by simpa using Maze.at_rooms [] x.path m r e, List.mem_flatMap.mpr ⟨x.door.toNat, List.mem_range.mpr (by omega), List.mem_map.mpr ⟨x.st.toNat, List.mem_range.mpr (by omega), ?_⟩⟩⟩
  cases x
  simp only at *
  simp
  omega
theorem step_in {m : Maze} {R : Rob} (h : RobWf R) {x : Std} (hx : x.In m R) : (∀ r, (wStep m R x).2 = .inl r → r.Wf R.length) ∧ (∀ y, (wStep m R x).2 = .inr y → y.In m R) := by
  obtain ⟨⟨r, e, d0, d1⟩, s0, s1⟩ := hx
  have dw := deedOf_wf h s0 s1 r.sign (1 + (r.brs.length : Nat))
  unfold wStep
  rw [e]
  simp only [gStep]
  cases hd : deedOf (R.getD x.st.toNat []) (ruleOf (R.getD x.st.toNat []) r.sign (1 + (r.brs.length : Nat))) with
  | stop w =>
    rw [hd] at dw
    simp only
    exact ⟨fun r z => (by cases z; exact dw), fun y z => (by cases z)⟩
  | go a b =>
    rw [hd] at dw
    obtain ⟨a0, a1, b0, b1⟩ := dw
    simp only
    by_cases z : 0 < (x.door + a) % (1 + ((r.brs.length : Nat) : Int))
    · rw [if_pos z]
      refine ⟨fun r z => (by cases z), fun y z => ?_⟩
      cases z
      have m1 := Int.emod_lt_of_pos (x.door + a) (show (0 : Int) < 1 + ((r.brs.length : Nat) : Int) by omega)
      generalize (x.door + a) % (1 + ((r.brs.length : Nat) : Int)) = k at *
      have lt : (k - 1).toNat < r.brs.length := by omega
      refine ⟨⟨r.brs[(k - 1).toNat], ?_, by simp, by simp; omega⟩, b0, b1⟩
      show Maze.at? m (x.path ++ [k]) = _
      rw [Maze.at_app, e, Option.bind_some]
      exact Maze.at_child (by omega) (by omega) (List.getElem?_eq_getElem lt)
    · rw [if_neg z]
      rcases List.eq_nil_or_concat x.path with q | ⟨p, k, q⟩
      · rw [q]
        simp only [List.getLast?_nil]
        exact ⟨fun r z => (by cases z; exact ⟨b0, b1⟩), fun y z => (by cases z)⟩
      · rw [List.concat_eq_append] at q
        rw [q]
        simp only [List.getLast?_append, List.getLast?_singleton, Option.some_or, List.dropLast_concat]
        refine ⟨fun r z => (by cases z), fun y z => ?_⟩
        cases z
        rw [q, Maze.at_app] at e
        obtain ⟨r', e1, e2⟩ := Option.bind_eq_some_iff.mp e
        obtain ⟨k1, k2, _⟩ := Maze.at_one e2
        exact ⟨⟨r', e1, by simp; omega, by simp; omega⟩, b0, b1⟩
def addOnce {α : Type} [DecidableEq α] (ys : List α) (x : α) : List α := if x ∈ ys then ys else ys ++ [x]
theorem addOnce_new {α : Type} [DecidableEq α] {ys : List α} {x : α} (h : x ∉ ys) : addOnce ys x = ys ++ [x] := if_neg h
theorem dput_old {α : Type} {enc : α → PyData} [DecidableEq α] (E : Enc enc) {x : α} {v : PyData} {ys : List (α × PyData)} (h : ∃ y ∈ ys, y.1 = x) (hv : ∀ y ∈ ys, y.1 = x → y.2 = v) : dput (dmap enc ys) (enc x) v = dmap enc ys := by
  have e : (dget (dmap enc ys) (enc x)).isSome = true := by
    rw [dget_map E, Option.isSome_map, List.find?_isSome]
    obtain ⟨y, hy, e⟩ := h
    exact ⟨y, hy, by simpa using e⟩
  unfold dput
  rw [if_pos e]
  unfold dmap
  rw [List.map_map]
  refine List.map_congr_left fun y hy => ?_
  show (if toKey (enc y.1) = toKey (enc x) then (enc y.1, v) else (enc y.1, y.2)) = _
  by_cases z : y.1 = x
  · rw [if_pos (by rw [z]), hv y hy z]
  · rw [if_neg fun q => z (E.inj _ _ q)]
def yes {α : Type} (x : α) : α × PyData := (x, .bool true)
theorem dput_yes {α : Type} {enc : α → PyData} [DecidableEq α] (E : Enc enc) {x : α} {ys : List α} : dput (dmap enc (ys.map yes)) (enc x) (.bool true) = dmap enc ((addOnce ys x).map yes) := by
  unfold addOnce
  by_cases h : x ∈ ys
  · rw [if_pos h]
    refine dput_old E ⟨yes x, List.mem_map_of_mem h, rfl⟩ fun y hy _ => ?_
    obtain ⟨z, _, rfl⟩ := List.mem_map.mp hy
    rfl
  · rw [if_neg h, dput_new E (fun y hy => ?_), List.map_append]
    · rfl
    · obtain ⟨z, hz, rfl⟩ := List.mem_map.mp hy
      exact fun e => h (by rw [← show z = x from e]; exact hz)
theorem yes_map {α : Type} (ys : List α) : (ys.map yes).map (·.1) = ys := by
  rw [List.map_map]
  exact List.map_id' ys
theorem dc_map {α β : Type} [DecidableEq β] {enc : α → PyData} {ke : β → PyData} (E : Enc ke) {kf : α → β} {vf : α → PyData} {g : GM} {tk tv : EM} {vs : List Nat} {fr : Fr} {S : Store} : ∀ {ys : List α} {acc : List (β × PyData)},
    (∀ y ∈ ys, ∃ fr1, g (.d (enc y)) (wipeF fr vs) = some fr1 ∧ tk fr1 S = .ok (.d (ke (kf y))) S ∧ tv fr1 S = .ok (.d (vf y)) S) → (ys.map kf).Nodup → (∀ y ∈ ys, ∀ a ∈ acc, a.1 ≠ kf y) → acc.length + ys.length ≤ sizeLine →
    dcF g bYes tk tv vs fr ((ys.map enc).map .d) S (dmap ke acc) = .ok (dmap ke (acc ++ ys.map fun y => (kf y, vf y))) S
  | [], acc, _, _, _, _ => by simp [dcF]
  | y :: ys, acc, h, nd, fr0, hl => by
    obtain ⟨fr1, e, h1, h2⟩ := h y List.mem_cons_self
    rw [List.length_cons] at hl
    rw [List.map_cons, List.nodup_cons] at nd
    have l0 : (dmap ke acc).length = acc.length := by unfold dmap; rw [List.length_map]
    have e1 : dcF g bYes tk tv vs fr (((y :: ys).map enc).map .d) S (dmap ke acc) = dcF g bYes tk tv vs fr ((ys.map enc).map .d) S (dput (dmap ke acc) (ke (kf y)) (vf y)) := by
      simp only [List.map_cons, dcF, dcRow, e, bYes, noX, Rs.bind, h1, h2, if_true]
      rw [if_pos (by rw [E.key, tupKeys_map E, l0]; simp; omega)]
    rw [e1, dput_new E (fun a ha => fr0 y List.mem_cons_self a ha), dc_map E (fun z hz => h z (List.mem_cons_of_mem _ hz)) nd.2 (fun z hz a ha => ?_) (by simp; omega)]
    · simp
    · rcases List.mem_append.mp ha with q | q
      · exact fr0 z (List.mem_cons_of_mem _ hz) a q
      · rw [List.mem_singleton.mp q]
        exact fun e => nd.1 (by rw [show kf y = kf z from e]; exact List.mem_map_of_mem hz)
end PD
namespace PD
open PySem PySem.Spec PyProof.Rows L2
inductive Way (m : Maze) (R : Rob) : Std → List Std → (Res ⊕ Std) → Prop
  | one {x : Std} {e : Res ⊕ Std} : (wStep m R x).2 = e → Way m R x [x] e
  | cons {x y : Std} {l : List Std} {e : Res ⊕ Std} : (wStep m R x).2 = .inr y → Way m R y l e → Way m R x (x :: l) e
section
variable {m : Maze} {R : Rob}
theorem Way.app {x y : Std} {l l' : List Std} {e : Res ⊕ Std} (h : Way m R x l (.inr y)) (k : Way m R y l' e) : Way m R x (l ++ l') e := by
  generalize hz : (Sum.inr y : Res ⊕ Std) = z at h
  induction h with
  | one h => subst hz; exact .cons h k
  | cons h _ ih => exact .cons h (ih hz)
abbrev gate (st : Int) : Std := ⟨[], 0, st⟩
theorem gate_in {st : Int} (h0 : 0 ≤ st) (h1 : st < R.length) : (gate st).In m R := ⟨⟨m, Maze.at_nil m, by simp, by simp; omega⟩, h0, h1⟩
end
def exitOf (p : List Int) (k : Int) : Res ⊕ Std := match p.getLast? with
  | none => .inl (.out k)
  | some d => .inr ⟨p.dropLast, d, k⟩
def Ends (m : Maze) (R : Rob) (p : List Int) (x : Std) : Res → Prop
  | .out k => ∃ l, Way m R x l (exitOf p k) ∧ ∀ y ∈ l, p <+: y.path
  | .stop w => ∃ l, Way m R x l (.inl (.stop w)) ∧ ∀ y ∈ l, p <+: y.path
  | .ever => ∀ n, ∃ l y, n ≤ l.length ∧ Way m R x l (.inr y) ∧ ∀ y ∈ l, p <+: y.path
end PD
namespace PD
open PySem PySem.Spec PyProof.Rows L2
theorem Maze.kid_size {b : Maze} : ∀ {bs : List Maze}, b ∈ bs → b.size ≤ Maze.sizes bs
  | x :: xs, h => by
    rw [Maze.sizes]
    rcases List.mem_cons.mp h with rfl | h
    · omega
    · have := Maze.kid_size h; omega
theorem Maze.at_path {m : Maze} : ∀ {p : List Int} {b : Maze}, m.Wf → Maze.at? m p = some b → ∀ k ∈ p, 1 ≤ k ∧ k ≤ 2
  | [], b, _, _, k, hk => by cases hk
  | j :: p, b, w, h, k, hk => by
    cases m with
    | mk s bs =>
      obtain ⟨m, k1, k2, e, h'⟩ := Maze.at_some h
      have := w.two
      rcases List.mem_cons.mp hk with rfl | hk
      · exact ⟨k1, by omega⟩
      · exact Maze.at_path (w.mem (List.mem_of_getElem? e)) h' k hk
theorem pk_wd {p : List Int} (h : ∀ k ∈ p, 1 ≤ k ∧ k ≤ 2) {L : Nat} (hl : p.length ≤ L) : Wd 1 (6 * L + 3) (pk p) := Wd.tmap (a := 4) (fun k hk => Wd.small (by have := h k hk; omega)) L hl
theorem Std.wd {m : Maze} {R : Rob} {x : Std} (w : m.Wf) (hR : RobWf R) (hx : x.In m R) : Wd 2 (6 * m.size + 20) x.d := by
  obtain ⟨⟨r, e, d0, d1⟩, s0, s1⟩ := hx
  have few := hR.few
  obtain ⟨a, b⟩ := Maze.at_wf w e
  have two : r.brs.length ≤ 2 := by cases r with | mk s bs => exact a.two
  exact Wd.t3 (a := 6 * m.size + 3) (b := 4) (c := 4) (pk_wd (Maze.at_path w e) (by omega)) (Wd.small (by omega)) (Wd.small (by omega))
theorem wRun_list {m : Maze} {R : Rob} (hR : RobWf R) : ∀ (f : Nat) (seen : List Std) (x : Std), (∀ y ∈ seen, y.In m R) → x.In m R → seen.Nodup → (∀ y ∈ (wRun m R f seen x).2, y.In m R) ∧ (wRun m R f seen x).2.Nodup ∧ (wRun m R f seen x).1.Wf R.length
  | 0, seen, x, h, _, nd => ⟨h, nd, trivial⟩
  | f + 1, seen, x, h, hx, nd => by
    rw [wRun]
    by_cases hm : x ∈ seen
    · rw [if_pos hm]; exact ⟨h, nd, trivial⟩
    · rw [if_neg hm]
      have nd2 : (seen ++ [x]).Nodup := by
        rw [List.nodup_append]
        exact ⟨nd, by simp, fun a ha b hb q => hm (by rw [← List.mem_singleton.mp hb, ← q]; exact ha)⟩
      have h2 : ∀ y ∈ seen ++ [x], y.In m R := fun y hy => (List.mem_append.mp hy).elim (h y) fun q => by rw [List.mem_singleton.mp q]; exact hx
      obtain ⟨a, b⟩ := step_in hR hx
      split
      · rename_i r e; exact ⟨h2, nd2, a r e⟩
      · rename_i y e; exact wRun_list hR f _ y h2 (b y e) nd2
theorem goOf_list {m : Maze} {R : Rob} (hR : RobWf R) {st : Int} (h0 : 0 ≤ st) (h1 : st < R.length) : (∀ y ∈ (goOf m R st).2, y.In m R) ∧ (goOf m R st).2.Nodup ∧ (goOf m R st).1.Wf R.length := wRun_list hR _ _ _ (by simp) (gate_in h0 h1) List.nodup_nil
theorem walk_wd {m : Maze} {R : Rob} (w : m.Wf) (hR : RobWf R) {st : Int} (h0 : 0 ≤ st) (h1 : st < R.length) (hs : m.size ≤ 120) (hl : R.length ≤ 4) : Wd 3 1100000 (.tuple ((goOf m R st).2.map Std.d)) := by
  obtain ⟨a, b, _⟩ := goOf_list (m := m) hR h0 h1
  have := std_few w b a
  have q : 3 * m.size * R.length ≤ 3 * 120 * 4 := Nat.mul_le_mul (Nat.mul_le_mul (Nat.le_refl 3) hs) hl
  exact Wd.tmap (a := 740) (fun y hy => (Std.wd w hR (a y hy)).mono (Nat.le_refl _) (by omega)) 1440 (by omega)
end PD
namespace PD
open PySem PySem.Spec PyProof.Rows L2
inductive Leaf where
  | is (R : Rob) (w : Str)
  | meets (R : Rob) (s : Str)
  | uses (R : Rob) (q : Nat) (k : Nat)
  | sees (R : Rob)
  | count (s : Str) (by_ : Int) (left : Int)
  | deep (n : Int)
def Leaf.d : Leaf → PyData
  | .is R w => .tuple [.str "is", robD R, .str w]
  | .meets R s => .tuple [.str "meets", robD R, .str s]
  | .uses R q k => .tuple [.str "uses", robD R, .int (q : Nat), .int (k : Nat)]
  | .sees R => .tuple [.str "sees", robD R]
  | .count s b l => .tuple [.str "count", .str s, .int b, .int l]
  | .deep n => .tuple [.str "deep", .int n]
inductive Say where
  | leaf (l : Leaf)
  | no (a : Say)
  | con (a b : Say)
  | dis (a b : Say)
def Say.d : Say → PyData
  | .leaf l => l.d
  | .no a => .tuple [.str "not", a.d]
  | .con a b => .tuple [.str "and", a.d, b.d]
  | .dis a b => .tuple [.str "or", a.d, b.d]
def Say.leaves : Say → List Leaf
  | .leaf l => [l]
  | .no a => a.leaves
  | .con a b => a.leaves ++ b.leaves
  | .dis a b => a.leaves ++ b.leaves
def Say.deep : Say → Nat
  | .leaf _ => 1
  | .no a => a.deep + 1
  | .con a b => max a.deep b.deep + 1
  | .dis a b => max a.deep b.deep + 1
def Say.nodes : Say → Nat
  | .leaf _ => 0
  | .no a => a.nodes + 1
  | .con a b => a.nodes + b.nodes + 1
  | .dis a b => a.nodes + b.nodes + 1
def Leaf.In (ts ws : List Str) (Rs : List Rob) : Leaf → Prop
  | .is R w => R ∈ Rs ∧ (w ∈ ws ∨ w = "lost" ∨ w = "out" ∨ w = "ever")
  | .meets R s => R ∈ Rs ∧ s ∈ ts
  | .uses R q k => R ∈ Rs ∧ q < R.length ∧ k < (R.getD q []).length
  | .sees R => R ∈ Rs
  | .count s b l => s ∈ ts ∧ 1 ≤ b ∧ b ≤ 4 ∧ 0 ≤ l ∧ l < b
  | .deep n => 1 ≤ n ∧ n ≤ 6
structure Say.In (ts ws : List Str) (Rs : List Rob) (a : Say) : Prop where
  lf : ∀ l ∈ a.leaves, l.In ts ws Rs
  few : a.leaves.length ≤ 3
  dp : a.deep ≤ 4
  nd : a.nodes ≤ 5
end PD
set_option maxHeartbeats 4000000
namespace PD
open PySem PySem.Spec PyProof.Rows L2
def mulW : SV → SV → Store → Rs SV
  | .d (.tuple xs), .d (.int k), S => if (decide (xs.length ≤ 1000) && decide (-1000 ≤ k) && decide (k ≤ 1000)) = true then .ok (.d (.tuple (List.replicate k.toNat xs).flatten)) S else .bad
  | x, y, S => mulV x y S
end PD
namespace PD
open PySem PySem.Spec PyProof.Rows L2
namespace Maze
def mp : Maze → List Int → List Int
  | _, [] => []
  | .mk _ bs, k :: p => (1 + (bs.length : Nat) - k) :: mp (bs.getD (k - 1).toNat default) p
termination_by _ p => p.length
end Maze
end PD
namespace PD
open PySem PySem.Spec PyProof.Rows L2 RZ
section
variable {prog : Program} {w : World} {A : Around} {E : Value → Shared → Prop} {s : Shared}
variable {S z TI TO i1 i2 l1 l2 : Addr} {xs ys : Array Value} {h0 : Heap}
structure ZG (S : Addr) (xs ys : Array Value) (as : List Addr) (h : Heap) : Prop where
  rise : as.Pairwise (· < ·)
  above : ∀ t ∈ as, S < t
  pairs : ∀ (j : Nat) (t : Addr), as[j]? = some t → ∃ x y, xs[j]? = some x ∧ ys[j]? = some y ∧ IsPair h t x y
structure ZSt (S z TI TO i1 i2 l1 l2 : Addr) (xs ys : Array Value) (h0 : Heap) (i : Nat) (as : List Addr) (h : Heap) : Prop where
  ti : IsPair h TI (.ref i1) (.ref i2)
  it1 : h.IsTupleIter i1 l1 i
  it2 : h.IsTupleIter i2 l2 i
  tl1 : h.IsTuple l1 xs
  tl2 : h.IsTuple l2 ys
  len : as.length = i
  g : ZG S xs ys as h
  out : (as = [] ∧ IsZip h z TI TO .none ∧ ∃ a b, IsPair h TO a b) ∨ (∃ T f, T ∈ as ∧ IsZipHeld h z TI TO T f)
  base : ∀ b o, b ≠ S → b ≠ z → b ≠ TO → b ≠ i1 → b ≠ i2 → h0.get? b = some o → h.get? b = some o
structure ZLow (S z TI TO i1 i2 l1 l2 : Addr) : Prop where
  z : z < S
  TI : TI < S
  TO : TO < S
  i1 : i1 < S
  i2 : i2 < S
  l1 : l1 < S
  l2 : l2 < S
theorem ZG.keep {as : List Addr} {h h' : Heap} (g : ZG S xs ys as h) (hk : ∀ b o, S < b → h.get? b = some o → h'.get? b = some o) : ZG S xs ys as h' :=
  ⟨g.rise, g.above, fun j t e => by
    obtain ⟨x, y, a, b, c⟩ := g.pairs j t e
    exact ⟨x, y, a, b, hk t _ (g.above t (List.mem_of_getElem? e)) c⟩⟩
theorem ZG.obj {as : List Addr} {h : Heap} (g : ZG S xs ys as h) {T : Addr} (hT : T ∈ as) : ∃ o, h.get? T = some o := by
  obtain ⟨j, e⟩ := List.getElem?_of_mem hT
  obtain ⟨x, y, _, _, c⟩ := g.pairs j T e
  exact ⟨_, c⟩
theorem ZG.snoc {as : List Addr} {h h' : Heap} {i : Nat} {x y : Value} (g : ZG S xs ys as h) (hl : as.length = i) (hS : S < h.objs.size) (hx : xs[i]? = some x) (hy : ys[i]? = some y) (hp : IsPair h' h.objs.size x y)
    (hk : ∀ b o, S < b → h.get? b = some o → h'.get? b = some o) : ZG S xs ys (as ++ [h.objs.size]) h' := by
  have g' := g.keep hk
  refine ⟨?_, ?_, ?_⟩
  · refine List.pairwise_append.mpr ⟨g.rise, List.pairwise_singleton _ _, fun a ha b hb => ?_⟩
    obtain rfl := List.mem_singleton.mp hb
    obtain ⟨o, e⟩ := g.obj ha
    exact Heap.lt_size e
  · intro t ht
    rcases List.mem_append.mp ht with q | q
    · exact g.above t q
    · obtain rfl := List.mem_singleton.mp q
      exact hS
  · intro j t e
    by_cases hj : j < as.length
    · rw [List.getElem?_append_left hj] at e
      exact g'.pairs j t e
    · rw [List.getElem?_append_right (by omega)] at e
      have hj0 : j - as.length = 0 := by
        cases q : j - as.length with
        | zero => rfl
        | succ m => rw [q] at e; simp at e
      rw [hj0] at e
      simp at e
      subst e
      have : j = i := by omega
      subst this
      exact ⟨x, y, hx, hy, hp⟩
end
section
variable {prog : Program} {w : World} {A : Around} {s : Shared} {R : Result → Shared → Prop}
variable {S z TI TO i1 i2 l1 l2 : Addr} {xs ys : Array Value} {h0 : Heap} {n : Nat}
theorem ZSt.write {i : Nat} {as : List Addr} {h : Heap} {o : Obj → Obj} (lo : ZLow S z TI TO i1 i2 l1 l2) (st : ZSt S z TI TO i1 i2 l1 l2 xs ys h0 i as h) (h' : Heap) (hk : ∀ b o, b ≠ S → h.get? b = some o → h'.get? b = some o) :
    ZSt S z TI TO i1 i2 l1 l2 xs ys h0 i as h' := by
  have nS : ∀ {a : Addr}, a < S → a ≠ S := fun h e => by rw [e] at h; exact Nat.lt_irrefl _ h
  refine ⟨hk _ _ (nS lo.TI) st.ti, st.it1.at fun o e => hk _ _ (nS lo.i1) e, st.it2.at fun o e => hk _ _ (nS lo.i2) e, st.tl1.at fun o e => hk _ _ (nS lo.l1) e, st.tl2.at fun o e => hk _ _ (nS lo.l2) e, st.len,
    st.g.keep fun b o hb e => hk b o (fun q => by rw [q] at hb; exact Nat.lt_irrefl _ hb) e, ?_, fun b o c0 c1 c2 c3 c4 e => hk b o c0 (st.base b o c0 c1 c2 c3 c4 e)⟩
  rcases st.out with ⟨e0, hz, a, b, hTO⟩ | ⟨T, f, hT, hz⟩
  · exact .inl ⟨e0, hk _ _ (nS lo.z) hz, a, b, hk _ _ (nS lo.TO) hTO⟩
  · exact .inr ⟨T, f, hT, hk _ _ (nS lo.z) hz⟩
end
end PD
namespace PD
open PySem PySem.Spec PyProof.Rows L2 RZ
end PD
namespace PD
open PySem PySem.Spec PyProof.Rows L2 RZ
theorem rpAll_map {M : Mo} {F : Addr → Prop} {H : Hp} {α : Type} {f : α → PyData} {g : α → V} (h : ∀ i, Rp M F H (f i) (g i)) : ∀ l : List α, RpAll M F H (l.map f) (l.map g)
  | [] => .nil
  | x :: r => .cons (h x) (rpAll_map h r)
def lstRgV : SV → SV → Store → Rs SV
  | .d (.int a), .d (.int b), S => if (decide (0 ≤ a) && decide (b ≤ 16777216) && decide (a ≤ 16777216) && decide (0 ≤ b)) = true then .ok (.d (.list ((List.range (b - a).toNat).map fun i => .int (a + (i : Nat))))) S else .bad
  | _, _, _ => .bad
section
variable {X : Cx} {W : WX} {O : Own} {pos : Pos}
theorem cn_listRg {e e2' : Expr} {ma mb : EM} {p p2 pos2 : Pos} (hcalm : X.calm = true) (hm : X.mg "list" = none) (hm2 : X.mg "range" = none) (he : CV X W O e ma) (he2 : CV X W O e2' mb) (hg : Gl X "list" := by rfl) (hg2 : Gl X "range" := by rfl)
    (na : starEach [.Call (.Name "range" p2) [e, e2'] [] pos2] X.env = (false, eval (.Call (.Name "range" p2) [e, e2'] [] pos2) X.env) :: starEach [] X.env := by rfl)
    (hs : starEach [e, e2'] X.env = (false, eval e X.env) :: starEach [e2'] X.env := by rfl) (hs2 : starEach [e2'] X.env = (false, eval e2' X.env) :: starEach [] X.env := by rfl) (hpl : (backTo pos2 (starEach [e2'] X.env)).any (·.1) = false := by rfl) :
    CN X W O (.Call (.Name "list" p) [.Call (.Name "range" p2) [e, e2'] [] pos2] [] pos) (e2 lstRgV ma mb) :=
  peI (pe_listRg hcalm hg hm (prg_2 hg2 hm2 he he2 hs hs2 hpl) na) fun σ H Q ⟨fr, S, G, R, h⟩ => ⟨fr, S, G, R, h.split fun x S1 u H1 G1 R1 st1 rx h1 => ⟨fr, S1, G1, R1, h1.split fun y S2 v H2 G2 R2 st2 ry h2 => by
    unfold lstRgV at h2
    split at h2
    · split at h2
      · rename_i hz
        simp only [Bool.and_eq_true, decide_eq_true_eq] at hz
        obtain rfl := rx.int
        obtain rfl := ry.int
        exact ⟨_, _, rfl, rfl, RgOk.of_le hz.1.1.1 hz.1.1.2 hz.1.2 hz.2, fun q hq => tmp_fin R2 (st1.trans st2) hq (rpAll_map (fun i => .int _) _) ⟨h2.good, h2.ok, h2.exc⟩⟩
      · exact h2.not_bad.elim
    · exact h2.not_bad.elim⟩⟩
end
end PD
namespace PD
open PySem PySem.Spec PyProof.Rows L2
abbrev cp (s : Str) : List Nat := s.cps.toList
theorem cp_app (a b : Str) : cp (a ++ b) = cp a ++ cp b := by
  show (a ++ b).cps.toList = _
  rw [Str.cps_append, Array.toList_append]
theorem cp_of (s : String) : cp (Str.ofString s) = s.toList.map Char.toNat := by
  show (Str.ofString s).cps.toList = _
  rw [Str.ofString_eq_toList]
theorem cp_inj {a b : Str} (h : cp a = cp b) : a = b := by
  cases a; cases b
  congr 1
  exact Array.toList_inj.mp h
def lowS (s : Str) : Prop := ∀ c ∈ cp s, 97 ≤ c ∧ c ≤ 122
mutual
def lowD : PyData → Prop
  | .str s => lowS s
  | .list xs => lowDs xs
  | .tuple xs => lowDs xs
  | .dict kvs => kvs = []
  | .none | .bool _ | .int _ => True
def lowDs : List PyData → Prop
  | [] => True
  | x :: xs => lowD x ∧ lowDs xs
end
theorem lowDs_all : ∀ {ds : List PyData}, lowDs ds ↔ ∀ d ∈ ds, lowD d
  | [] => by simp [lowDs]
  | d :: ds => by rw [lowDs, lowDs_all]; simp
def isDig (c : Nat) : Prop := c = 45 ∨ 48 ≤ c ∧ c ≤ 57
def isDl (c : Nat) : Bool := c == 44 || c == 41 || c == 93 || c == 125 || c == 58
theorem low_printable : ∀ c, 97 ≤ c ∧ c ≤ 122 → Unicode.isPrintable c = true := by
  have : (List.range 26).all (fun i => Unicode.isPrintable (97 + i)) = true := by decide +kernel
  rw [List.all_eq_true] at this
  rintro c ⟨h1, h2⟩
  have := this (c - 97) (List.mem_range.mpr (by omega))
  rwa [show 97 + (c - 97) = c by omega] at this
theorem reprChar_low {c : Nat} (h : 97 ≤ c ∧ c ≤ 122) : Builtin.Str.reprChar 39 c = [c] := by
  unfold Builtin.Str.reprChar
  dsimp only
  rw [if_neg (by simp; omega), if_neg (by simp; omega), if_neg (by simp; omega), if_neg (by simp; omega), if_pos (low_printable c h)]
theorem reprText_low {s : Str} (h : lowS s) : cp (reprText s) = 39 :: (cp s ++ [39]) := by
  have q : reprQuote s = 39 := by
    unfold reprQuote
    rw [if_neg]
    intro z
    simp only [Bool.and_eq_true] at z
    have m : 39 ∈ s.cps := by simpa using z.1
    have := h 39 (by simpa using m)
    omega
  unfold reprText
  rw [q]
  show ((s.cps.foldl (fun out c => out ++ (Builtin.Str.reprChar 39 c).toArray) #[39]).push 39).toList = _
  rw [Array.toList_push, ← Array.foldl_toList]
  have : ∀ (l : List Nat) (acc : Array Nat), (∀ c ∈ l, 97 ≤ c ∧ c ≤ 122) → (l.foldl (fun out c => out ++ (Builtin.Str.reprChar 39 c).toArray) acc).toList = acc.toList ++ l := fun l => by
    induction l with
    | nil => intro acc _; simp
    | cons c l ih =>
      intro acc hl
      rw [List.foldl_cons, ih _ fun d hd => hl d (List.mem_cons_of_mem _ hd), reprChar_low (hl c (by simp))]
      simp
  rw [this _ _ h]
  rfl
def numL (i : Int) : List Nat := cp (Str.ofString (toString i))
theorem numL_nat (m : Nat) : numL ((m : Nat) : Int) = (Nat.toDigits 10 m).map Char.toNat := PySem.W.KIN.signs_num m
theorem numL_neg {i : Int} (h : i < 0) : numL i = 45 :: (Nat.toDigits 10 i.natAbs).map Char.toNat := by
  unfold numL
  rw [cp_of, Int.toString_eq_repr, Int.repr_eq_if, if_neg (by omega), String.toList_append, List.map_append]
  have e : (-i).toNat = i.natAbs := by omega
  rw [e, Nat.toList_repr]
  rfl
theorem dig_range (m : Nat) : ∀ c ∈ (Nat.toDigits 10 m).map Char.toNat, 48 ≤ c ∧ c ≤ 57 := fun c h => by
  obtain ⟨d, hd, rfl⟩ := List.mem_map.mp h
  have := Nat.isDigit_of_mem_toDigits (by decide) (by decide) hd
  simp only [Char.isDigit, Bool.and_eq_true, decide_eq_true_eq] at this
  have h1 := UInt32.le_iff_toNat_le.mp this.1
  have h2 := UInt32.le_iff_toNat_le.mp this.2
  have e : d.val.toNat = d.toNat := rfl
  rw [e] at h1 h2
  exact ⟨by simpa using h1, by simpa using h2⟩
theorem dig_ne (m : Nat) : (Nat.toDigits 10 m).map Char.toNat ≠ [] := fun h => by
  have := PySem.W.KIN.val_back m
  rw [h] at this
  by_cases z : m = 0
  · subst z
    revert h
    decide
  · rw [show PySem.NumText.digitsVal [] = 0 from rfl] at this
    omega
theorem numL_range (i : Int) : ∀ c ∈ numL i, isDig c := fun c h => by
  by_cases z : i < 0
  · rw [numL_neg z] at h
    rcases List.mem_cons.mp h with e | h
    · exact .inl e
    · exact .inr (dig_range _ c h)
  · obtain ⟨m, rfl⟩ : ∃ m : Nat, i = m := ⟨i.toNat, by omega⟩
    rw [numL_nat] at h
    exact .inr (dig_range _ c h)
theorem numL_ne (i : Int) : numL i ≠ [] := by
  by_cases z : i < 0
  · rw [numL_neg z]; simp
  · obtain ⟨m, rfl⟩ : ∃ m : Nat, i = m := ⟨i.toNat, by omega⟩
    rw [numL_nat]; exact dig_ne m
theorem numL_inj {i j : Int} (h : numL i = numL j) : i = j := by
  have hd : ∀ (m : Nat) (l : List Nat), (Nat.toDigits 10 m).map Char.toNat ≠ 45 :: l := fun m l e => by
    have := dig_range m 45 (by rw [e]; simp)
    omega
  have dj : ∀ {m n : Nat}, (Nat.toDigits 10 m).map Char.toNat = (Nat.toDigits 10 n).map Char.toNat → m = n := fun {m n} e => by
    rw [← PySem.W.KIN.val_back m, e, PySem.W.KIN.val_back]
  by_cases z : i < 0
  · by_cases y : j < 0
    · rw [numL_neg z, numL_neg y] at h
      have := dj (List.cons.inj h).2
      omega
    · obtain ⟨m, rfl⟩ : ∃ m : Nat, j = m := ⟨j.toNat, by omega⟩
      rw [numL_neg z, numL_nat] at h
      exact absurd h.symm (hd _ _)
  · obtain ⟨m, rfl⟩ : ∃ m : Nat, i = m := ⟨i.toNat, by omega⟩
    by_cases y : j < 0
    · rw [numL_neg y, numL_nat] at h
      exact absurd h (hd _ _)
    · obtain ⟨n, rfl⟩ : ∃ m : Nat, j = m := ⟨j.toNat, by omega⟩
      rw [numL_nat, numL_nat] at h
      rw [dj h]
def Dl (s : List Nat) : Prop := ∀ c, s.head? = some c → isDl c = true
theorem split_dl {a b s t : List Nat} (ha : ∀ c ∈ a, isDl c = false) (hb : ∀ c ∈ b, isDl c = false) (hs : Dl s) (ht : Dl t) (h : a ++ s = b ++ t) : a = b ∧ s = t := by
  induction a generalizing b with
  | nil =>
    cases b with
    | nil => exact ⟨rfl, h⟩
    | cons c b =>
      rw [List.nil_append, List.cons_append] at h
      have := hs c (by rw [h]; rfl)
      rw [hb c (by simp)] at this
      cases this
  | cons c a ih =>
    cases b with
    | nil =>
      rw [List.nil_append, List.cons_append] at h
      have := ht c (by rw [← h]; rfl)
      rw [ha c (by simp)] at this
      cases this
    | cons d b =>
      rw [List.cons_append, List.cons_append] at h
      obtain ⟨e, h⟩ := List.cons.inj h
      obtain ⟨h1, h2⟩ := ih (fun x hx => ha x (by simp [hx])) (fun x hx => hb x (by simp [hx])) h
      exact ⟨by rw [e, h1], h2⟩
def kindC (c : Nat) : Nat := if c = 78 then 0 else if c = 84 ∨ c = 70 then 1 else if c = 45 ∨ (48 ≤ c ∧ c ≤ 57) then 2 else if c = 39 ∨ c = 34 then 3 else if c = 91 then 4 else if c = 40 then 5 else if c = 123 then 6 else 7
def kindD : PyData → Nat
  | .none => 0 | .bool _ => 1 | .int _ => 2 | .str _ => 3 | .list _ => 4 | .tuple _ => 5 | .dict _ => 6
def itemsL (e : Nat) : List (List Nat) → List Nat
  | [] => [e]
  | [x] => x ++ [e]
  | x :: y :: r => x ++ 44 :: 32 :: itemsL e (y :: r)
theorem join_items (e : Nat) : ∀ ts : List Str, cp (Str.join ", " ts) ++ [e] = itemsL e (ts.map cp)
  | [] => rfl
  | [t] => rfl
  | t :: u :: r => by
    show cp (t ++ ", " ++ Str.join ", " (u :: r)) ++ [e] = cp t ++ 44 :: 32 :: itemsL e ((u :: r).map cp)
    rw [cp_app, cp_app, ← join_items e (u :: r)]
    simp [cp_of]
theorem textFrom_items : ∀ (ts : List Str) (k : Nat) (acc : Str), 0 < k → cp (textFrom k acc ts) = cp acc ++ (ts.map fun t => 44 :: 32 :: cp t).flatten
  | [], k, acc, _ => by simp [textFrom]
  | t :: r, k, acc, hk => by
    show cp (textFrom (k + 1) (acc ++ (if k > 0 then ", " else "" : String) ++ t) r) = _
    rw [textFrom_items r (k + 1) _ (by omega), if_pos hk, cp_app, cp_app, cp_of]
    simp
theorem itemsL_flat (e : Nat) : ∀ (x : List Nat) (r : List (List Nat)), itemsL e (x :: r) = x ++ (r.map fun t => 44 :: 32 :: t).flatten ++ [e]
  | x, [] => by simp [itemsL]
  | x, y :: r => by
    rw [itemsL, itemsL_flat e y r]
    simp
theorem list_items (ts : List Str) : cp (listText ts) = 91 :: itemsL 93 (ts.map cp) := by
  unfold listText
  rw [cp_app]
  cases ts with
  | nil => rfl
  | cons t r =>
    show cp (textFrom 1 ("[" ++ (if 0 > 0 then ", " else "" : String) ++ t) r) ++ _ = _
    rw [textFrom_items r 1 _ (by omega), cp_app, cp_app, if_neg (by omega), cp_of, cp_of, cp_of, List.map_cons, itemsL_flat, List.map_map]
    simp [Function.comp_def]
theorem tuple_items (ts : List Str) (h : ts.length ≠ 1) : cp (tupleText ts) = 40 :: itemsL 41 (ts.map cp) := by
  unfold tupleText
  rw [if_neg (by simpa using h), cp_app, cp_app, cp_of, cp_of]
  rw [List.append_assoc, show (")" : String).toList.map Char.toNat = [41] from rfl, join_items]
  rfl
theorem tuple_one (t : Str) : cp (tupleText [t]) = 40 :: (cp t ++ [44, 41]) := by
  show cp (("(" : Str) ++ t ++ (",)" : String)) = _
  rw [cp_app, cp_app, cp_of, cp_of]
  rfl
theorem shownAll_map : ∀ ds : List PyData, PyData.shownAll ds = ds.map PyData.shown
  | [] => rfl
  | d :: ds => by rw [PyData.shownAll, shownAll_map ds]; rfl
theorem head_kind : ∀ (d : PyData), lowD d → ∃ c r, cp d.shown = c :: r ∧ kindC c = kindD d ∧ isDl c = false
  | .none, _ => ⟨78, _, rfl, rfl, rfl⟩
  | .bool true, _ => ⟨84, _, rfl, rfl, rfl⟩
  | .bool false, _ => ⟨70, _, rfl, rfl, rfl⟩
  | .int i, _ => by
    show ∃ c r, numL i = c :: r ∧ _
    cases h : numL i with
    | nil => exact absurd h (numL_ne i)
    | cons c r =>
      have := numL_range i c (by rw [h]; simp)
      refine ⟨c, r, rfl, ?_⟩
      unfold isDig at this
      constructor
      · unfold kindC kindD
        rw [if_neg (by omega), if_neg (by omega), if_pos this]
      · unfold isDl
        simp
        omega
  | .str s, h => by
    show ∃ c r, cp (reprText s) = c :: r ∧ _
    rw [reprText_low h]
    exact ⟨39, _, rfl, rfl, rfl⟩
  | .list xs, _ => by
    show ∃ c r, cp (listText _) = c :: r ∧ _
    rw [list_items]
    exact ⟨91, _, rfl, rfl, rfl⟩
  | .tuple xs, _ => by
    show ∃ c r, cp (tupleText (PyData.shownAll xs)) = c :: r ∧ _
    by_cases h : (PyData.shownAll xs).length = 1
    · match PyData.shownAll xs, h with
      | [t], _ => rw [tuple_one]; exact ⟨40, _, rfl, rfl, rfl⟩
    · rw [tuple_items _ h]
      exact ⟨40, _, rfl, rfl, rfl⟩
  | .dict kvs, _ => by
    show ∃ c r, cp (("{" : Str) ++ Str.join ", " _ ++ "}") = c :: r ∧ _
    rw [cp_app, cp_app, cp_of]
    exact ⟨123, _, rfl, rfl, rfl⟩
inductive Ky : PyData → Prop
  | int (i : Int) : Ky (.int i)
  | str {s : Str} : lowS s → Ky (.str s)
  | tup {xs : List PyData} : (∀ x ∈ xs, Ky x) → Ky (.tuple xs)
def Pre (d : PyData) : Prop := ∀ e s t, lowD e → Dl s → Dl t → cp e.shown ++ s = cp d.shown ++ t → e = d ∧ s = t
theorem dl_cons {c : Nat} {s : List Nat} (h : isDl c = true) : Dl (c :: s) := fun d e => by
  simp at e
  rw [← e]; exact h
theorem items_pre {q : Nat} (hq : isDl q = true) (hq4 : q ≠ 44) : ∀ (ds es : List PyData) (s t : List Nat), (∀ d ∈ ds, Pre d ∧ lowD d) → (∀ e ∈ es, lowD e) → itemsL q (es.map fun d => cp d.shown) ++ s = itemsL q (ds.map fun d => cp d.shown) ++ t → es = ds ∧ s = t
  | [], [], s, t, _, _, h => ⟨rfl, by simpa [itemsL] using h⟩
  | [], e :: es, s, t, _, he, h => by
    obtain ⟨c, r, e1, _, e2⟩ := head_kind e (he e (by simp))
    rw [List.map_cons, itemsL_flat, e1] at h
    have : c = q := by simpa [itemsL] using (congrArg List.head? h)
    rw [this, hq] at e2
    cases e2
  | d :: ds, [], s, t, hd, _, h => by
    obtain ⟨c, r, e1, _, e2⟩ := head_kind d (hd d (by simp)).2
    rw [List.map_cons, itemsL_flat, e1] at h
    have : q = c := by simpa [itemsL] using (congrArg List.head? h)
    rw [← this, hq] at e2
    cases e2
  | [d], [e], s, t, hd, he, h => by
    simp only [List.map_cons, List.map_nil, itemsL, List.append_assoc, List.cons_append, List.nil_append] at h
    obtain ⟨a, b⟩ := (hd d (by simp)).1 e _ _ (he e (by simp)) (dl_cons hq) (dl_cons hq) h
    exact ⟨by rw [a], (List.cons.inj b).2⟩
  | [d], e :: f :: es, s, t, hd, he, h => by
    simp only [List.map_cons, List.map_nil, itemsL, List.append_assoc, List.cons_append, List.nil_append] at h
    obtain ⟨a, b⟩ := (hd d (by simp)).1 e _ _ (he e (by simp)) (dl_cons (by decide)) (dl_cons hq) h
    exact absurd (List.cons.inj b).1.symm hq4
  | d :: g :: ds, [e], s, t, hd, he, h => by
    simp only [List.map_cons, List.map_nil, itemsL, List.append_assoc, List.cons_append, List.nil_append] at h
    obtain ⟨a, b⟩ := (hd d (by simp)).1 e _ _ (he e (by simp)) (dl_cons hq) (dl_cons (by decide)) h
    exact absurd (List.cons.inj b).1 hq4
  | d :: g :: ds, e :: f :: es, s, t, hd, he, h => by
    simp only [List.map_cons, itemsL, List.append_assoc, List.cons_append] at h
    obtain ⟨a, b⟩ := (hd d (by simp)).1 e _ _ (he e (by simp)) (dl_cons (by decide)) (dl_cons (by decide)) h
    have b2 := (List.cons.inj (List.cons.inj b).2).2
    obtain ⟨u, v⟩ := items_pre hq hq4 (g :: ds) (f :: es) s t (fun x hx => hd x (by simp at hx ⊢; right; exact hx)) (fun x hx => he x (by simp at hx ⊢; right; exact hx)) (by simpa using b2)
    exact ⟨by rw [a, u], v⟩
theorem Ky.low {d : PyData} (h : Ky d) : lowD d := by
  induction h with
  | int i => trivial
  | str h => exact h
  | tup h ih => exact lowDs_all.mpr ih
theorem kind_eq {d e : PyData} {s t : List Nat} (hd : lowD d) (he : lowD e) (h : cp e.shown ++ s = cp d.shown ++ t) : kindD e = kindD d := by
  obtain ⟨c, r, e1, k1, _⟩ := head_kind d hd
  obtain ⟨c', r', e2, k2, _⟩ := head_kind e he
  rw [e1, e2] at h
  rw [← k1, ← k2, (List.cons.inj h).1]
theorem Ky.pre {d : PyData} (h : Ky d) : Pre d := by
  induction h with
  | int i =>
    intro e s t he hs ht h
    have k := kind_eq (d := .int i) trivial he h
    cases e <;> simp [kindD] at k
    rename_i j
    have nd : ∀ i : Int, ∀ c ∈ numL i, isDl c = false := fun i c hc => by
      have := numL_range i c hc
      unfold isDig at this
      unfold isDl
      simp
      omega
    obtain ⟨a, b⟩ := split_dl (a := numL j) (b := numL i) (nd j) (nd i) hs ht h
    exact ⟨by rw [numL_inj a], b⟩
  | @str u hu =>
    intro e s t he hs ht h
    have k := kind_eq (d := .str u) hu he h
    cases e <;> simp [kindD] at k
    rename_i v
    have h : cp (reprText v) ++ s = cp (reprText u) ++ t := h
    have nd : ∀ u : Str, lowS u → ∀ c ∈ cp (reprText u), isDl c = false := fun u hu c hc => by
      rw [reprText_low hu] at hc
      simp at hc
      unfold isDl
      rcases hc with rfl | hc | rfl
      · rfl
      · have := hu c (by simpa using hc)
        simp
        omega
      · rfl
    obtain ⟨a, b⟩ := split_dl (nd v he) (nd u hu) hs ht h
    rw [reprText_low he, reprText_low hu] at a
    have := List.append_cancel_right (List.cons.inj a).2
    exact ⟨by rw [cp_inj this], b⟩
  | @tup xs hx ih =>
    intro e s t he hs ht h
    have k := kind_eq (d := .tuple xs) (Ky.tup hx).low he h
    cases e <;> simp [kindD] at k
    rename_i ys
    have hy : ∀ y ∈ ys, lowD y := lowDs_all.mp he
    have h : cp (tupleText (PyData.shownAll ys)) ++ s = cp (tupleText (PyData.shownAll xs)) ++ t := h
    have mm : ∀ zs : List PyData, (PyData.shownAll zs).map cp = zs.map fun d => cp d.shown := fun zs => by rw [shownAll_map, List.map_map]; rfl
    have xl : ∀ x ∈ xs, Pre x ∧ lowD x := fun x h => ⟨ih x h, (hx x h).low⟩
    by_cases l1 : xs.length = 1
    · obtain ⟨x, rfl⟩ := List.length_eq_one_iff.mp l1
      rw [show PyData.shownAll [x] = [x.shown] from rfl, tuple_one] at h
      have hx1 := xl x (by simp)
      by_cases l2 : ys.length = 1
      · obtain ⟨y, rfl⟩ := List.length_eq_one_iff.mp l2
        rw [show PyData.shownAll [y] = [y.shown] from rfl, tuple_one] at h
        simp only [List.cons_append, List.append_assoc, List.nil_append] at h
        obtain ⟨a, b⟩ := hx1.1 y _ _ (hy y (by simp)) (dl_cons (by decide)) (dl_cons (by decide)) (List.cons.inj h).2
        exact ⟨by rw [a], by simpa using b⟩
      · rw [tuple_items (PyData.shownAll ys) (by rw [shownAll_map]; simpa using l2), mm] at h
        match ys, l2, hy with
        | [], _, _ =>
          obtain ⟨c, r, e1, _, e2⟩ := head_kind x hx1.2
          rw [e1] at h
          have : 41 = c := by simpa [itemsL] using (congrArg (fun l => l.tail.head?) h)
          rw [← this] at e2
          exact absurd e2 (by decide)
        | y :: z :: r, _, hy =>
          simp only [List.map_cons, itemsL, List.cons_append, List.append_assoc, List.nil_append] at h
          obtain ⟨a, b⟩ := hx1.1 y _ _ (hy y (by simp)) (dl_cons (by decide)) (dl_cons (by decide)) (List.cons.inj h).2
          have := (List.cons.inj (List.cons.inj b).2).1
          omega
    · rw [tuple_items (PyData.shownAll xs) (by rw [shownAll_map]; simpa using l1), mm] at h
      by_cases l2 : ys.length = 1
      · obtain ⟨y, rfl⟩ := List.length_eq_one_iff.mp l2
        rw [show PyData.shownAll [y] = [y.shown] from rfl, tuple_one] at h
        have hy1 := hy y (by simp)
        match xs, l1, xl with
        | [], _, _ =>
          obtain ⟨c, r, e1, _, e2⟩ := head_kind y hy1
          rw [e1] at h
          have : c = 41 := by simpa [itemsL] using (congrArg (fun l => l.tail.head?) h)
          rw [this] at e2
          exact absurd e2 (by decide)
        | x :: z :: r, _, xl =>
          simp only [List.map_cons, itemsL, List.cons_append, List.append_assoc, List.nil_append] at h
          obtain ⟨a, b⟩ := (xl x (by simp)).1 y _ _ hy1 (dl_cons (by decide)) (dl_cons (by decide)) (List.cons.inj h).2
          have := (List.cons.inj (List.cons.inj b).2).1
          omega
      · rw [tuple_items (PyData.shownAll ys) (by rw [shownAll_map]; simpa using l2), mm] at h
        simp only [List.cons_append] at h
        obtain ⟨a, b⟩ := items_pre (q := 41) (by decide) (by decide) xs ys s t xl hy (List.cons.inj h).2
        exact ⟨by rw [a], b⟩
end PD
namespace PD
open PySem PySem.Spec PyProof.Rows L2
end PD
namespace PD
open PySem PySem.Spec PyProof.Rows L2 PySem.Froz
def keyS (e : Int × Value) : Str := match e.2 with
  | .str k _ => k
  | _ => default
structure TxR (P : Program) (w : World) (h : Heap) (a : Addr) (D : SD) (l : List Str) : Prop where
  ob : h.get? a = some (sObj "set" D)
  ok : TxOk P w D l
  ris : Ris D.2.2.place.toList
  led : w.params.followText "set-order" = true ∨ D.2.2.led = true
  keys : (D.1.toList.map keyS).Perm l
  alls : ∀ e ∈ D.1.toList, ∃ k tk, e.2 = Value.str k tk
theorem TxR.on {P : Program} {w : World} {h h' : Heap} {a : Addr} {D : SD} {l : List Str} (R : TxR P w h a D l) (ha : ∀ o, h.get? a = some o → h'.get? a = some o) : TxR P w h' a D l := { R with ob := ha _ R.ob }
theorem TxR.new {P : Program} {w : World} {h : Heap} {a : Addr} (ho : h.get? a = some (set0 w)) : TxR P w h a (#[], 0, .fresh 0 0 (!w.params.followText "set-order")) [] where
  ob := ho
  ok := TxOk.nil rfl
  ris := .nil
  led := by
    show _ ∨ (!w.params.followText "set-order") = true
    cases w.params.followText "set-order" <;> simp
  keys := .nil
  alls := fun e h => by simp at h
structure HasT (ks : List Str) (i : Nat) (L : List Str) : Prop where
  mem : ∀ p, p ∈ L ↔ p ∈ ks.take i
  nd : L.Nodup
  len : L.length ≤ i
theorem HasT.nil {ks : List Str} : HasT ks 0 [] := ⟨fun p => by simp, List.nodup_nil, Nat.le_refl _⟩
theorem HasT.next {ks L L' : List Str} {i : Nat} {x : Str} (g : HasT ks i L) (h : ks[i]? = some x) (old : x ∈ L → L' = L) (new : x ∉ L → L' = x :: L) : HasT ks (i + 1) L' := by
  have tk : ks.take (i + 1) = ks.take i ++ [x] := by rw [List.take_succ, h]; rfl
  by_cases hm : x ∈ L
  · rw [old hm]
    refine ⟨fun p => ?_, g.nd, Nat.le_succ_of_le g.len⟩
    rw [tk, List.mem_append, List.mem_singleton, ← g.mem]
    exact ⟨.inl, fun h => h.elim id fun e => by rw [e]; exact hm⟩
  · rw [new hm]
    refine ⟨fun p => ?_, List.nodup_cons.mpr ⟨hm, g.nd⟩, Nat.succ_le_succ g.len⟩
    rw [tk, List.mem_append, List.mem_singleton, ← g.mem, List.mem_cons]
    exact Or.comm
end PD
namespace PD
open PySem PySem.Spec PyProof.Rows L2 PySem.Froz
end PD
namespace PD
open PySem PySem.Spec PyProof.Rows L2
end PD
namespace PD
open PySem PySem.Spec PyProof.Rows L2
end PD
namespace PD
open PySem PySem.Spec PyProof.Rows L2
end PD
namespace PD
open PySem PySem.Spec PyProof.Rows L2
def putS (f : Str) (v : SV) : List (Str × SV) → List (Str × SV)
  | [] => [(f, v)]
  | (g, x) :: r => if g = f then (g, v) :: r else (g, x) :: putS f v r
section
variable {M : Mo} {G : Gh} {H : Hp}
theorem RpF.put {f : Str} {x : SV} {u : V} (q : RpS M G H x u) : ∀ {fs : List (Str × SV)} {vs : List (Str × V)}, RpF M G H fs vs → RpF M G H (putS f x fs) (putF f u vs)
  | _, _, .nil => .cons ⟨rfl, q⟩ .nil
  | (g, y) :: fs, (g', w) :: vs, .cons ⟨e, r⟩ t => by
    have e : g = g' := e
    subst e
    show RpF M G H (if g = f then (g, x) :: fs else (g, y) :: putS f x fs) (if g = f then (g, u) :: vs else (g, w) :: putF f u vs)
    by_cases z : g = f
    · rw [if_pos z, if_pos z]; exact .cons ⟨rfl, q⟩ t
    · rw [if_neg z, if_neg z]; exact .cons ⟨rfl, r⟩ (RpF.put q t)
theorem RpF.len {fs : List (Str × SV)} {vs : List (Str × V)} (h : RpF M G H fs vs) : fs.length = vs.length := Paired.length h
end
def insOf (C : Str) (o : SV) (S : Store) : Option (Nat × List (Str × SV)) := match o with
  | .obj r => (match S[r]? with
    | some (.ins D fs) => if D = C then some (r, fs) else none
    | _ => none)
  | _ => none
def fldV (C f : Str) (o : SV) (S : Store) : Rs SV := match insOf C o S with
  | some (_, fs) => (match fs.lookup f with
    | some v => .ok v S
    | none => .bad)
  | none => .bad
def eFld (C f : Str) (m : EM) : EM := fun fr S => (m fr S).bind fun o S1 => fldV C f o S1
def sFldS (C f : Str) (mv mo : EM) : SM := fun fr S => (mv fr S).toS fr fun v S1 => (mo fr S1).toS fr fun o S2 => match insOf C o S2 with
  | some (r, fs) => if fs.length < 900 then .nx fr (S2.set r (.ins C (putS f v fs))) else .bad
  | none => .bad
def eMeth (C m : Str) (n : Nat) (F : FN) (mo : EM) (ma : AM) : EM := fun fr S => (mo fr S).bind fun o S1 => match insOf C o S1 with
  | some (_, fs) => if (fs.lookup m).isNone = true then (ma fr S1).bind fun xs S2 => if xs.length = n then F (o :: xs) S2 else .bad else .bad
  | none => .bad
def eMake (C : Str) (n : Nat) (F : FN) (ma : AM) : EM := fun fr S => (ma fr S).bind fun xs S1 => if xs.length = n then (F (.obj S1.length :: xs) (S1 ++ [.ins C []])).bind fun v S2 => match v with
  | .d .none => .ok (.obj S1.length) S2
  | _ => .bad else .bad
def sAppO (mo me : EM) : SM := fun fr S => (mo fr S).toS fr fun o S1 => match o with
  | .obj r => (match S1[r]? with
    | some (.lst _) => (me fr S1).toS fr fun v S2 => (match S2[r]? with
      | some (.lst xs) => if xs.length < sizeLine then .nx fr (S2.set r (.lst (xs ++ [v]))) else .bad
      | _ => .bad)
    | _ => .bad)
  | _ => .bad
theorem RpSs.snoc {M : Mo} {G : Gh} {H : Hp} {x : SV} {v : V} (r : RpS M G H x v) : ∀ {xs : List SV} {vs : List V}, RpSs M G H xs vs → RpSs M G H (xs ++ [x]) (vs ++ [v])
  | _, _, .nil => .cons r .nil
  | _, _, .cons q t => .cons q (RpSs.snoc r t)
end PD
namespace PD
open PySem PySem.Spec PyProof.Rows L2
end PD
namespace PD
open PySem PySem.Spec PyProof.Rows L2
def keyK : PyData → Option Key
  | .int i => some (.inl i)
  | .str s => some (.inr s)
  | _ => none
def allK (ds : List (PyData × PyData)) : Bool := ds.all fun p => (keyK p.1).isSome
def dgetK (ds : List (PyData × PyData)) (kd : PyData) : Option PyData := (ds.find? fun p => decide (keyK p.1 = keyK kd)).map (·.2)
def dputK (ds : List (PyData × PyData)) (kd vd : PyData) : List (PyData × PyData) := if (dgetK ds kd).isSome = true then ds.map fun p => if keyK p.1 = keyK kd then (p.1, vd) else p else ds ++ [(kd, vd)]
section
variable {M : Mo} {F F' : Addr → Prop} {H H' : Hp}
theorem keyK_of {d : PyData} {k : Key} (e : keyK d = some k) {u : V} (r : Rp M F H d u) : u = kV k := by
  cases r with
  | int i => cases e; rfl
  | str x => cases e; rfl
  | _ => cases e
theorem rp_key {d : PyData} {k : Key} (e : keyK d = some k) : Rp M F H d (kV k) := by
  cases d with
  | int i => cases e; exact .int i
  | str x => cases e; exact .str x
  | _ => cases e
abbrev DK (M : Mo) (F : Addr → Prop) (H : Hp) : List (PyData × PyData) → List (Key × V) → Prop := Paired fun p q => keyK p.1 = some q.1 ∧ Rp M F H p.2 q.2
theorem DK.of : ∀ {ds : List (PyData × PyData)} {kvs : List (Key × V)}, allK ds = true → RpAll M F H (ds.map (·.1)) (kvs.map fun p => kV p.1) → RpAll M F H (ds.map (·.2)) (kvs.map (·.2)) → DK M F H ds kvs
  | [], [], _, _, _ => .nil
  | [], _ :: _, _, h, _ => nomatch h
  | _ :: _, [], _, h, _ => nomatch h
  | (kd, vd) :: ds, (k, v) :: kvs, a, .cons r1 t1, .cons r2 t2 => by
    have a' : (keyK kd).isSome = true ∧ allK ds = true := by simpa [allK] using a
    obtain ⟨k', e⟩ := Option.isSome_iff_exists.mp a'.1
    exact .cons ⟨by rw [e]; exact congrArg some (kV_inj (keyK_of e r1)).symm, r2⟩ (DK.of a'.2 t1 t2)
theorem DK.parts : ∀ {ds : List (PyData × PyData)} {kvs : List (Key × V)}, DK M F H ds kvs → RpAll M F H (ds.map (·.1)) (kvs.map fun p => kV p.1) ∧ RpAll M F H (ds.map (·.2)) (kvs.map (·.2))
  | _, _, .nil => ⟨.nil, .nil⟩
  | _, _, .cons ⟨e, r⟩ t => ⟨.cons (rp_key e) (DK.parts t).1, .cons r (DK.parts t).2⟩
theorem DK.keep (k : Keeps F F' H H') {ds : List (PyData × PyData)} {kvs : List (Key × V)} (h : DK M F H ds kvs) : DK M F' H' ds kvs := Paired.mono (fun _ _ q => ⟨q.1, Rp.keep k q.2⟩) h
theorem DK.find {kd : PyData} {k : Key} (e : keyK kd = some k) : ∀ {ds : List (PyData × PyData)} {kvs : List (Key × V)}, DK M F H ds kvs → (dgetK ds kd = none ∧ valV kvs k = none) ∨ ∃ d v, dgetK ds kd = some d ∧ valV kvs k = some v ∧ Rp M F H d v
  | _, _, .nil => .inl ⟨rfl, rfl⟩
  | p :: ds, q :: kvs, .cons ⟨h1, h2⟩ t => by
    by_cases hk : q.1 = k
    · refine .inr ⟨p.2, q.2, ?_, valV_pos hk, h2⟩
      unfold dgetK
      rw [List.find?_cons, show decide (keyK p.1 = keyK kd) = true by rw [h1, e, hk]; simp]
      rfl
    · rw [valV_neg hk, show dgetK (p :: ds) kd = dgetK ds kd by
        unfold dgetK
        rw [List.find?_cons, show decide (keyK p.1 = keyK kd) = false by
          rw [h1, e]
          exact decide_eq_false (fun z => hk (Option.some.inj z))]]
      exact DK.find e t
theorem DK.rep {kd vd : PyData} {k : Key} {v : V} (e : keyK kd = some k) (rv : Rp M F H vd v) : ∀ {ds : List (PyData × PyData)} {kvs : List (Key × V)}, DK M F H ds kvs → DK M F H (ds.map fun p => if keyK p.1 = keyK kd then (p.1, vd) else p) (kvs.map fun q => if q.1 = k then (q.1, v) else q)
  | _, _, .nil => .nil
  | p :: ds, q :: kvs, .cons ⟨h1, h2⟩ t => by
    refine .cons ?_ (DK.rep e rv t)
    show keyK (if keyK p.1 = keyK kd then (p.1, vd) else p).1 = some (if q.1 = k then (q.1, v) else q).1 ∧ Rp M F H (if keyK p.1 = keyK kd then (p.1, vd) else p).2 (if q.1 = k then (q.1, v) else q).2
    by_cases hk : q.1 = k
    · rw [if_pos hk, if_pos (by rw [h1, e, hk])]
      exact ⟨h1, rv⟩
    · rw [if_neg hk, if_neg (by rw [h1, e]; exact fun z => hk (Option.some.inj z))]
      exact ⟨h1, h2⟩
theorem DK.put {kd vd : PyData} {k : Key} {v : V} (e : keyK kd = some k) (rv : Rp M F H vd v) {ds : List (PyData × PyData)} {kvs : List (Key × V)} (h : DK M F H ds kvs) : DK M F H (dputK ds kd vd) (putK kvs k v) := by
  unfold dputK putK
  rw [valV_any]
  rcases h.find e with ⟨h1, h2⟩ | ⟨d, w, h1, h2, _⟩
  · rw [h1, h2, if_neg (by simp), if_neg (by simp)]
    exact Paired.app h (.cons ⟨e, rv⟩ .nil)
  · rw [h1, h2, if_pos (show (some d).isSome = true from rfl), if_pos (show (some w).isSome = true from rfl)]
    exact DK.rep e rv h
end
def ixKV : SV → SV → Store → Rs SV
  | .d (.dict ds), .d x, S => if ((keyK x).isSome && allK ds) = true then (match dgetK ds x with
    | some d => .ok (.d d) S
    | none => .bad) else .bad
  | _, _, _ => .bad
section
variable {X : Cx} {k : Nat} {pins : List (Addr × Obj)} {σ : L2.St} {H : Hp} {s : Shared} {F : Addr → Prop} {a : Addr}
def DAtK (X : Cx) (H : Hp) (a : Addr) (kvs : List (Key × V)) : Prop := H a = some (.dK kvs) ∨ (kvs = [] ∧ ∃ o, H a = some (.ext (dictObj X.w a [] o)))
theorem DAtK.heap (I : Inv X pins σ H s) {kvs : List (Key × V)} (h : DAtK X H a kvs) : kvs.length ≤ sizeLine ∧ (a == sysModules) = false ∧ ∃ vs, KV kvs vs ∧ s.heap.DictOf (mixKind X.prog X.w) a vs := by
  rcases h with h | ⟨rfl, o, h⟩
  · exact dk_of I.hok h
  · obtain ⟨⟨ds, ep, h1, h2, h3, h4, _, h5⟩, _⟩ := I.hok _ _ h
    have e0 : ds.toList = [] := by
      cases hq : ds.toList with
      | nil => rfl
      | cons z zs => rw [hq] at h4; cases h4
    refine ⟨Nat.zero_le _, beq_eq_false_iff_ne.mpr fun z => h5 z.symm, [], .nil, o, ds, ep, h1, h2, h3, ?_, ?_, List.nodup_nil⟩
    · have : ds = #[] := by cases ds; simpa using e0
      subst this
      exact fun e he => absurd he (by simp)
    · show Pairs (mixKind X.prog X.w) ds.toList []
      rw [e0]
      exact .nil
theorem allK_dN {M : Mo} : ∀ {ds : List (PyData × PyData)} {es : List ER}, RpAll M F H (ds.map (·.1)) (es.map fun e => V.ref e.2.1) → allK ds = true → ds = [] ∧ es = []
  | [], [], _, _ => ⟨rfl, rfl⟩
  | [], _ :: _, h, _ => nomatch h
  | _ :: _, [], h, _ => nomatch h
  | (kd, _) :: _, _ :: _, .cons r _, a => by
    exfalso
    have h1 : (keyK kd).isSome = true := by
      have := a
      simp [allK] at this
      exact this.1
    cases kd with
    | int i => exact nomatch (show Rp M F H (.int i) (.ref _) from r)
    | str x => exact nomatch (show Rp M F H (.str x) (.ref _) from r)
    | _ => cases h1
theorem Rp.dAtK {ds : List (PyData × PyData)} {v : V} (r : Rp (.of X) F H (.dict ds) v) (h : allK ds = true) : ∃ a kvs, v = .ref a ∧ DAtK X H a kvs ∧ DK (.of X) F H ds kvs := by
  cases r with
  | dK f q r1 r2 => exact ⟨_, _, rfl, .inl q, DK.of h r1 r2⟩
  | dN f q z r1 r2 =>
    obtain ⟨rfl, rfl⟩ := allK_dN r1 h
    exact ⟨_, [], rfl, .inr ⟨rfl, _, q⟩, .nil⟩
theorem Cont.dAtK {ds : List (PyData × PyData)} (c : Cont (.of X) F H a (.d (.dict ds))) (h : allK ds = true) : ∃ kvs, DAtK X H a kvs ∧ DK (.of X) F H ds kvs := by
  rcases c with ⟨_, _, e, _⟩ | ⟨es, kvs, e, q, r1, r2⟩ | ⟨es, kvs, o, e, q, z, r1, r2⟩
  · cases e
  · cases e
    exact ⟨_, .inl q, DK.of h r1 r2⟩
  · cases e
    obtain ⟨rfl, rfl⟩ := allK_dN r1 h
    exact ⟨[], .inr ⟨rfl, _, q⟩, .nil⟩
theorem RpV.dAtK {G : Gh} {ds : List (PyData × PyData)} {u : V} (r : RpV (.of X) G H (.d (.dict ds)) u) (h : allK ds = true) : ∃ a kvs, u = .ref a ∧ DAtK X H a kvs ∧ DK (.of X) G.F H ds kvs := by
  cases r with
  | val r => exact Rp.dAtK r h
  | ownD n c =>
    obtain ⟨kvs, x, y⟩ := c.dAtK h
    exact ⟨_, kvs, rfl, x, y⟩
def ixKR (X : Cx) : R2 := fun x y H Q => ∃ F a kvs ds d k z, x = .ref a ∧ y = kV k ∧ DAtK X H a kvs ∧ DK (.of X) F H ds kvs ∧ keyK d = some k ∧ dgetK ds d = some z ∧ ∀ v, Rp (.of X) F H z v → Q v H
theorem ix_dictK : IxR X (ixKR X) := by
  intro value slice pins s σ H x y v u Q I rx ry h hs
  obtain ⟨F, a, kvs, ds, d, k, z, rfl, rfl, at_, dr, ek, hz, q⟩ := h
  obtain ⟨_, ne, vs, rel, dd⟩ := at_.heap I
  cases (show v = Value.ref a from rx)
  rcases dr.find ek with ⟨h1, _⟩ | ⟨z', w, h1, h2, rw'⟩
  · rw [hz] at h1; cases h1
  · rw [hz] at h1
    cases h1
    obtain ⟨w', hw, rv⟩ := RelO.some_of (v := w) (o := valueAt vs k) (by rw [← h2]; exact rel.val k)
    exact subscriptTail_builtinR (x := w') dd.typeIs PySem.F.slot_dict_getitem.lookup
      (wpAny_getItem_of (Q := fun r s' => r = w' ∧ EP X pins σ Q r s') (kV_is ry) dd.mapOf hw ⟨rfl, w, H, I.tok _, rv, q w rw'⟩) hs
theorem p_ixK : P2 (.of X) (ixKR X) ixKV := by
  intro W O σ H fr S G x y u v Q R rx ry h
  unfold ixKV at h
  split at h
  · split at h
    · rename_i hz
      rw [Bool.and_eq_true] at hz
      split at h
      · rename_i hd
        obtain ⟨kk, ek⟩ := Option.isSome_iff_exists.mp hz.1
        obtain ⟨_, ry⟩ := ry.any
        obtain ⟨a, kvs, rfl, at_, dr⟩ := rx.dAtK hz.2
        exact ⟨_, a, kvs, _, _, kk, _, rfl, keyK_of ek ry, at_, dr, ek, hd, fun v rv => h.here R (show RpS (.of X) G H (.d _) v from rv)⟩
      · exact h.not_bad.elim
    · exact h.not_bad.elim
  · exact h.not_bad.elim
end
end PD
namespace PD
open PySem PySem.Spec PyProof.Rows L2
theorem RpAll.eraseIdx {M : Mo} {F : Addr → Prop} {H : Hp} : ∀ {ds : List PyData} {vs : List V} (j : Nat), RpAll M F H ds vs → RpAll M F H (ds.eraseIdx j) (vs.eraseIdx j)
  | _, _, _, .nil => .nil
  | _, _, 0, .cons _ t => t
  | _, _, j + 1, .cons q t => .cons q (RpAll.eraseIdx j t)
def fPopAt (i : Nat) (m : EM) : FM := fun fr S => match ownL fr i with
  | some ds => (m fr S).bind fun y S1 => (match y with
    | .d (.int n) => (match ixN ds.length n with
      | some j => (match ds[j]? with
        | some d => if ds.length ≤ sizeLine then .ok (.d d, fr.set i (some (.d (.list (ds.eraseIdx j))))) S1 else .bad
        | none => .bad)
      | none => .bad)
    | _ => .bad)
  | none => .bad
theorem FPst.split {M : Mo} {W : WX} {O : Own} {σ : L2.St} {H : Hp} {fr : Fr} {S : Store} {G : Gh} {Q : VK} {QA : V → Hp → Prop} {r : Rs SV} {f : SV → Store → Rs (SV × Fr)} (R : Rel M O σ H fr S G) (h : FPst M W O σ H G (r.bind f) fr Q)
    (next : ∀ (z : SV) (S1 : Store) (u : V) (H1 : Hp) (G1 : Gh), Rel M O σ H1 fr S1 G1 → Stp G H G1 H1 → RpS M G1 H1 z u → FPst M W O σ H1 G1 (f z S1) fr Q → QA u H1) : Pst M W O σ H fr G r (RpS M) QA := by
  refine ⟨fun e => h.good (by rw [e]; rfl), fun z S1 e u H1 G1 R1 st1 q => ?_, fun x S1 e H1 G1 cls d R1 st1 q => h.exc x S1 (by rw [e]; rfl) H1 G1 cls d R1 (R.base.adv st1) q⟩
  have hb : r.bind f = f z S1 := by rw [e]; rfl
  rw [hb] at h
  exact next z S1 u H1 G1 R1 st1 q ⟨h.good, fun v fr' S' e2 u2 H2 G2 R2 a2 q2 => h.ok v fr' S' e2 u2 H2 G2 R2 ((R.base.adv st1).trans a2) q2, fun x S2 e2 H2 G2 cls d R2 a2 q2 => h.exc x S2 e2 H2 G2 cls d R2 ((R.base.adv st1).trans a2) q2⟩
section
variable {X : Cx} {W : WX} {L O : Own} {st : Stmt} {e : Expr}
theorem cf_popAt (i : Nat) {m : EM} (ho : (O[i]? == some true) = true) (h : PE X e (tBM X.K "list" rPopAt (tVar i) (tCons (tM (.of X) W O m) tNil))) : CF X W O e (fPopAt i m) := by
  have ho' := has_of ho
  refine peI h fun σ H Q ⟨fr, S, G, R, h⟩ => ?_
  unfold fPopAt at h
  split at h
  · rename_i ds hds
    obtain ⟨a, xs, hs, hH, r⟩ := R.ownAt ho' hds
    refine ⟨_, hs, .inl ⟨rfl, xs, SqL.of hH⟩, fr, S, G, R, FPst.split R h fun y S1 u H1 G1 R1 st1 ry h1 => ?_⟩
    split at h1
    · rename_i n
      split at h1
      · rename_i j hj
        split at h1
        · rename_i d hd
          split at h1
          · rename_i hz
            obtain ⟨a', xs', hs', hH', r'⟩ := R1.ownAt ho' hds
            have ea : a' = a := by rw [hs] at hs'; cases hs'; rfl
            subst ea
            cases ry
            obtain ⟨v, hv, rv⟩ := r'.get hd
            obtain ⟨R2, a2⟩ := R1.ownSet (ys := xs'.eraseIdx j) ho' hds hs' hH' (r'.eraseIdx j)
            obtain ⟨q1, q2, q3, q4⟩ := ixN_seq hj
            have sz := sizeLine_eq
            refine ⟨a', xs', n, j, v, rfl, rfl, hH', by omega, by omega, by rw [← r'.length]; exact q1, hv, h1.ok _ _ S1 rfl v _ G1 R2 a2 (a2.rps (x := .d d) rv)⟩
          · exact (h1.good rfl).elim
        · exact (h1.good rfl).elim
      · exact (h1.good rfl).elim
    · exact (h1.good rfl).elim
  · exact (h.good rfl).elim
def sAppF (i : Nat) (m : FM) : SM := fun fr S => match ownL fr i with
  | some _ => (m fr S).toS fr fun p S1 => (match p.1, ownL p.2 i with
    | .d d, some ds => if ds.length < sizeLine then .nx (p.2.set i (some (.d (.list (ds ++ [d]))))) S1 else .bad
    | _, _ => .bad)
  | none => .bad
theorem cs_appF (i : Nat) {m : FM} (ho : (O[i]? == some true) = true) (h : PS X st (tDrop (tBM X.K "list" rAppend (tVar i) (tCons (tF (.of X) W O m) tNil)))) : CS X W L O st (sAppF i m) O := by
  have ho' := has_of ho
  refine psI h fun D σ H ⟨fr, S, G, R, h⟩ => ?_
  unfold sAppF at h
  split at h
  · rename_i ds0 hds0
    obtain ⟨a, xs, hs, hH, r⟩ := R.ownAt ho' hds0
    refine ⟨_, hs, .inl ⟨rfl, xs, SqL.of hH⟩, fr, S, G, R, h.expF fun y fr1 S1 u H1 G1 R1 ry h1 => ?_⟩
    split at h1
    · rename_i d ds hds
      split at h1
      · rename_i hz
        obtain ⟨a', xs', hs', hH', r'⟩ := R1.ownAt ho' (by assumption)
        have ea : a' = a := by rw [hs] at hs'; cases hs'; rfl
        subst ea
        simp only at *
        obtain ⟨R2, a2⟩ := R1.ownSet (ys := xs' ++ [u]) ho' (by assumption) hs' hH' (r'.append (.cons (by subst_vars; exact ry) .nil))
        exact ⟨a', xs', u, rfl, rfl, hH', by rw [← r'.length]; exact hz, h1.nx _ S1 rfl _ _ G1 R2 a2⟩
      · exact (h1.good rfl).elim
    · exact (h1.good rfl).elim
  · exact (h.good rfl).elim
end
end PD
namespace PD
open PySem PySem.Spec PyProof.Rows L2
end PD
namespace PD
open PySem PySem.Spec PyProof.Rows L2
def pairK : PyData → Option (PyData × PyData)
  | .tuple [k, v] => if (keyK k).isSome = true then some (k, v) else none
  | _ => none
def pairsK : List PyData → Option (List (PyData × PyData))
  | [] => some []
  | d :: ds => (pairK d).bind fun p => (pairsK ds).map (p :: ·)
def putsK (acc more : List (PyData × PyData)) : List (PyData × PyData) := more.foldl (fun a p => dputK a p.1 p.2) acc
section
variable {M : Mo} {F : Addr → Prop} {H : Hp}
theorem DK.merge {ds : List (PyData × PyData)} {kvs : List (Key × V)} (h : DK M F H ds kvs) : ∀ {acc : List (PyData × PyData)} {ka : List (Key × V)}, DK M F H acc ka → DK M F H (putsK acc ds) (mergeK ka kvs) := by
  induction h with
  | nil => intro acc ka a; exact a
  | cons q t ih => intro acc ka a; exact ih (DK.put q.1 q.2 a)
theorem pairs_rel : ∀ {ps : List PyData} {xs : List V} {ds : List (PyData × PyData)}, RpAll M F H ps xs → pairsK ps = some ds → ∃ (as : List Addr) (kvs : List (Key × V)), xs = as.map V.ref ∧ Paired (fun p (kv : Key × V) => SqT M.K H p [kV kv.1, kv.2]) as kvs ∧ DK M F H ds kvs
  | [], _, _, .nil, e => by cases e; exact ⟨[], [], rfl, .nil, .nil⟩
  | d :: ps, _, _, .cons r t, e => by
    simp only [pairsK] at e
    cases e1 : pairK d with
    | none => rw [e1] at e; cases e
    | some p =>
      rw [e1] at e
      cases e2 : pairsK ps with
      | none => rw [e2] at e; cases e
      | some ds' =>
        rw [e2] at e
        cases e
        obtain ⟨as, kvs, h1, h2, h3⟩ := pairs_rel t e2
        unfold pairK at e1
        split at e1
        · rename_i k v
          split at e1
          · rename_i hk
            cases e1
            obtain ⟨kk, ek⟩ := Option.isSome_iff_exists.mp hk
            cases r with
            | tup q rr =>
              cases rr with
              | cons rk r1 =>
                cases r1 with
                | cons rv r2 =>
                  cases r2
                  have := keyK_of ek rk
                  subst this
                  exact ⟨_ :: as, (kk, _) :: kvs, by rw [h1]; rfl, .cons q h2, .cons ⟨ek, rv⟩ h3⟩
          · cases e1
        · cases e1
end
def dictLV : List SV → Store → Rs SV
  | [.d (.list ps)], S => (match pairsK ps with
    | some ds => .ok (.d (.dict (putsK [] ds))) S
    | none => .bad)
  | _, _ => .bad
section
variable {M : Mo} {W : WX} {O : Own} {σ : L2.St} {H H1 : Hp} {fr : Fr} {S1 : Store} {G G1 : Gh} {Q : VK}
theorem tmp_finK (R1 : Rel M O σ H1 fr S1 G1) (st1 : Stp G H G1 H1) {p : Addr} (hp : H1 p = none) {ds : List (PyData × PyData)} {kvs : List (Key × V)} (r : DK M G1.F H1 ds kvs)
    (h : Pst M W O σ H1 fr G1 (.ok (.d (.dict ds)) S1) (fun G' H' v u => ∃ a, u = V.ref a ∧ Tmp M H a v G' H') Q) : Q (.ref p) (upd H1 p (.dK kvs)) := by
  obtain ⟨B, st⟩ := R1.base.newT (o := .dK kvs) hp
  obtain ⟨_, nr, nf⟩ := R1.base.new0 hp
  have k := R1.base.keeps st
  obtain ⟨p1, p2⟩ := DK.parts (DK.keep k r)
  exact h.ok _ _ rfl _ _ G1 (R1.step st B) st ⟨p, rfl, st1.there p hp, nf, nr, .inr (.inl ⟨ds, kvs, rfl, upd_same, p1, p2⟩)⟩
end
section
variable {X : Cx} {W : WX} {O : Own} {pos q apos : Pos}
theorem cn_dictL {e : Expr} {m : EM} (hcalm : X.calm = true) (hm : X.mg "dict" = none) (he : CV X W O e m) (hg : Gl X "dict" := by rfl) (hs : starEach [e] X.env = (false, eval e X.env) :: starEach [] X.env := by rfl) : CN X W O (.Call (.Name "dict" q) [e] [] pos) (eA1 dictLV m) :=
  peI (pe_callTy (call_dictP hcalm) hg hm bt_dict (cav_cons he cav_nil hs) (by decide) (by decide) hs (by rfl)) fun σ H Q ⟨fr, S, G, R, h⟩ => ⟨fr, S, G, R, h.split fun xs S1 us H1 G1 R1 st1 rs h1 => by
    unfold dictLV at h1
    split at h1
    · split at h1
      · rename_i ds hz
        obtain ⟨u, rfl, ru⟩ := rs.one
        obtain ⟨a, vs, rfl, sq, r⟩ := ru.lst
        obtain ⟨as, kvs, rfl, hp, dk⟩ := pairs_rel r hz
        exact ⟨a, as, kvs, rfl, SqL.of sq, hp, fun p hn => tmp_finK R1 st1 hn (DK.merge dk .nil) ⟨h1.good, h1.ok, h1.exc⟩⟩
      · exact h1.not_bad.elim
    · exact h1.not_bad.elim⟩
def dict2V : SV → SV → SV → SV → Store → Rs SV
  | .d (.str k), .d v, .d (.str l), .d w, S => if k = l then .bad else .ok (.d (.dict [(.str k, v), (.str l, w)])) S
  | _, _, _, _, _ => .bad
def eDict2 (a b c d : EM) : EM := fun fr S => (a fr S).bind fun x S1 => (b fr S1).bind fun y S2 => (c fr S2).bind fun z S3 => (d fr S3).bind fun w S4 => dict2V x y z w S4
theorem cn_dict2 {k v l w : Expr} {mk mv ml mw : EM} (hk : CE X W O k mk) (hv : CE X W O v mv) (hl : CE X W O l ml) (hw : CE X W O w mw) : CN X W O (.Dict [some k, some l] [v, w] pos) (eDict2 mk mv ml mw) := by
  refine peI (pe_disp (pps_cons hk hv (pps_cons hl hw pps_nil)) rfl rfl (by simp) (by simp)) fun σ H Q ⟨fr, S, G, R, h⟩ p hp => ?_
  obtain ⟨B0, st0⟩ := R.base.newT (o := .dK []) hp
  obtain ⟨n0, nr, nf⟩ := R.base.new0 hp
  have R0 := R.step st0 B0
  have t0 : Tmp (.of X) H p (.d (.dict [])) G (upd H p (.dK [])) := ⟨hp, nf, nr, .inr (.inl ⟨[], [], rfl, upd_same, .nil, .nil⟩)⟩
  have h0 : Pst (.of X) W O σ (upd H p (.dK [])) fr G (eDict2 mk mv ml mw fr S) (fun G' H' z u => ∃ a, u = V.ref a ∧ Tmp (.of X) H a z G' H') Q :=
    ⟨h.good, fun z S' e u H' G' R' st r => h.ok z S' e u H' G' R' (st0.trans st) r, fun x S' e H' G' cls d R' st r => h.exc x S' e H' G' cls d R' (st0.trans st) r⟩
  refine ⟨fr, S, G, R0, h0.splitE fun x S1 u H1 G1 ek R1 st1 rx h1 => ⟨fr, S1, G1, R1, h1.splitE fun y S2 u2 H2 G2 ev R2 st2 ry h2 => ⟨fr, S2, G2, R2, h2.splitE fun z S3 u3 H3 G3 el R3 st3 rz h3 => ⟨fr, S3, G3, R3, h3.splitE fun o S4 u4 H4 G4 ew R4 st4 rw4 h4 => ?_⟩⟩⟩⟩
  have ee : eDict2 mk mv ml mw fr S = dict2V x y z o S4 := by
    unfold eDict2
    rw [ek]
    show ((mv fr S1).bind fun y S2 => (ml fr S2).bind fun z S3 => (mw fr S3).bind fun w S4 => dict2V x y z w S4) = _
    rw [ev]
    show ((ml fr S2).bind fun z S3 => (mw fr S3).bind fun w S4 => dict2V x y z w S4) = _
    rw [el]
    show ((mw fr S3).bind fun w S4 => dict2V x y z w S4) = _
    rw [ew]
    rfl
  unfold dict2V at h4
  split at h4
  · rename_i kd vd ld wd
    split at h4
    · exact h4.not_bad.elim
    · rename_i hz
      have t1 := t0.step R0.base st1
      have t2 := t1.step R1.base st2
      have t3 := t2.step R2.base st3
      have t4 := t3.step R3.base st4
      have st := st0.trans (st1.trans (st2.trans (st3.trans st4)))
      have rx4 := R3.base.rps st4 (R2.base.rps st3 (R1.base.rps st2 rx))
      have ry4 := R3.base.rps st4 (R2.base.rps st3 ry)
      have rz4 := R3.base.rps st4 rz
      have ux : u = kV (.inr kd) := keyK_of (M := .of X) rfl (show Rp (.of X) G4.F H4 (.str kd) u from rx4)
      have uz : u3 = kV (.inr ld) := keyK_of (M := .of X) rfl (show Rp (.of X) G4.F H4 (.str ld) u3 from rz4)
      subst ux uz
      have k1 := st1.keep p _ upd_same nr
      have k2 := st2.keep p _ k1 t1.nr
      have k3 := st3.keep p _ k2 t2.nr
      have k4 := st4.keep p _ k3 t3.nr
      have em : mergeK [] [((.inr kd : Key), u2), (.inr ld, u4)] = [((.inr kd : Key), u2), (.inr ld, u4)] := by
        have hne : ¬ ((Sum.inr kd : Key) = Sum.inr ld) := fun e => hz (Sum.inr.inj e)
        simp [mergeK, putK, hne]
      obtain ⟨R5, st5, k5⟩ := R.tmpWrite (o := .dK (mergeK [] [((.inr kd : Key), u2), (.inr ld, u4)])) R4 st t4
      have e3 : eDict2 mk mv ml mw fr S = .ok (.d (.dict [(.str kd, vd), (.str ld, wd)])) S4 := by
        rw [ee]
        show (if kd = ld then .bad else Rs.ok (SV.d (.dict [(.str kd, vd), (.str ld, wd)])) S4) = _
        rw [if_neg hz]
      refine ⟨k4, [((.inr kd : Key), u2), (.inr ld, u4)], rfl, by simp, h.ok _ _ e3 _ _ G4 R5 st5 ⟨p, rfl, ⟨hp, t4.nf, t4.nr, .inr (.inl ⟨_, mergeK [] [((.inr kd : Key), u2), (.inr ld, u4)], rfl, upd_same, ?_, ?_⟩)⟩⟩⟩
      · rw [em] at k5 ⊢
        exact .cons (Rp.keep k5 rx4) (.cons (Rp.keep k5 rz4) .nil)
      · rw [em] at k5 ⊢
        exact .cons (Rp.keep k5 ry4) (.cons (Rp.keep k5 rw4) .nil)
  · exact h4.not_bad.elim
def eGetK (a b c : EM) : EM := fun fr S => (a fr S).bind fun x S1 => match x with
  | .d (.dict ds) => if (allK ds && !ds.isEmpty) = true then (b fr S1).bind fun y S2 => (c fr S2).bind fun z S3 => (match y, z with
      | .d k, .d w => if (keyK k).isSome = true then .ok (.d ((dgetK ds k).getD w)) S3 else .bad
      | _, _ => .bad) else .bad
  | _ => .bad
theorem ce_getK {k : Nat} {o e f : Expr} {mo me mf : EM} (hr : Room k X.A) (ho : CE X W O o mo) (he : CE X W O e me) (hf : CE X W O f mf) (m : M2 X o "get" apos e f pos) : CE X W O (.Call (.Attribute o "get" apos) [e, f] [] pos) (eGetK mo me mf) :=
  peI (pe_dget2 (by have := room190 hr (n := 1) (by omega); omega) ho he hf m) fun σ H Q ⟨fr, S, G, R, h⟩ => ⟨fr, S, G, R, h.split fun x S1 u H1 G1 R1 st1 rx h1 => by
    split at h1
    · rename_i ds
      split at h1
      · rename_i hz
        rw [Bool.and_eq_true] at hz
        have rx' : Rp (.of X) G1.F H1 (.dict ds) u := rx
        obtain ⟨a, kvs, rfl, at_, dk⟩ := Rp.dAtK rx' hz.1
        have hne : kvs ≠ [] := fun z => by
          subst z
          cases dk
          simp at hz
        have hH : H1 a = some (.dK kvs) := at_.resolve_right fun z => hne z.1
        refine ⟨a, rfl, .inl ⟨kvs, .inl hH⟩, fr, S1, G1, R1, h1.split fun y S2 v H2 G2 R2 st2 ry h2 => ⟨fr, S2, G2, R2, h2.split fun z S3 w H3 G3 R3 st3 rz h3 => ?_⟩⟩
        split at h3
        · rename_i kd wd
          split at h3
          · rename_i hk
            obtain ⟨kk, ek⟩ := Option.isSome_iff_exists.mp hk
            have ry3 := R2.base.rps st3 ry
            have rx3 := R2.base.rps st3 (R1.base.rps st2 rx)
            obtain ⟨a', kvs', e', at3, dk3⟩ := Rp.dAtK (show Rp (.of X) G3.F H3 (.dict ds) (.ref a) from rx3) hz.1
            cases e'
            have hne' : kvs' ≠ [] := fun z => by
              subst z
              cases dk3
              simp at hz
            have hH3 : H3 a = some (.dK kvs') := at3.resolve_right fun z => hne' z.1
            have ev := keyK_of ek (show Rp (.of X) G3.F H3 kd v from ry3)
            refine ⟨valV kvs' kk, .inl ⟨kvs', kk, .inl hH3, ev, rfl⟩, ?_⟩
            rcases dk3.find ek with ⟨g1, g2⟩ | ⟨d', v', g1, g2, rv⟩
            · rw [g1] at h3
              rw [g2]
              exact h3.here R3 rz
            · rw [g1] at h3
              rw [g2]
              exact h3.here R3 (show RpS (.of X) G3 H3 (.d d') v' from rv)
          · exact h3.not_bad.elim
        · exact h3.not_bad.elim
      · exact h1.not_bad.elim
    · exact h1.not_bad.elim⟩
end
end PD
namespace PD
open PySem PySem.Spec PyProof.Rows L2
end PD
namespace PD
open PySem PySem.Spec PyProof.Rows L2
theorem wf_mk {s : Str} {bs : List Maze} (h : Sn s) (l : bs.length ≤ 2) (k : ∀ b ∈ bs, b.Wf) : (Maze.mk s bs).Wf := by
  rw [Maze.Wf]
  exact ⟨h, l, Maze.wfs_all.mpr k⟩
end PD
namespace PD
open PySem PySem.Spec PyProof.Rows L2
end PD
namespace PD
open PySem PySem.Spec PyProof.Rows L2
namespace Maze
mutual
def ren (f : Str → Str) : Maze → Maze
  | .mk s bs => .mk (f s) (rens f bs)
def rens (f : Str → Str) : List Maze → List Maze
  | [] => []
  | b :: bs => ren f b :: rens f bs
end
theorem rens_map (f : Str → Str) : ∀ bs : List Maze, rens f bs = bs.map (ren f)
  | [] => rfl
  | b :: bs => by rw [rens, rens_map f bs]; rfl
mutual
theorem ren_size (f : Str → Str) : ∀ m : Maze, (ren f m).size = m.size
  | .mk s bs => by rw [ren, size, size, rens_size f bs]
theorem rens_size (f : Str → Str) : ∀ bs : List Maze, sizes (rens f bs) = sizes bs
  | [] => rfl
  | b :: bs => by rw [rens, sizes, sizes, ren_size f b, rens_size f bs]
end
theorem ren_brs (f : Str → Str) (m : Maze) : (ren f m).brs = m.brs.map (ren f) := by
  cases m with
  | mk s bs => rw [ren, brs, brs, rens_map]
theorem ren_sign (f : Str → Str) (m : Maze) : (ren f m).sign = f m.sign := by
  cases m with
  | mk s bs => rw [ren, sign, sign]
theorem ren_at (f : Str → Str) : ∀ {p : List Int} {m b : Maze}, at? m p = some b → at? (ren f m) p = some (ren f b)
  | [], m, b, h => by
    rw [at?] at h ⊢
    rw [Option.some.inj h]
  | k :: p, .mk s bs, b, h => by
    obtain ⟨c, k1, k2, e, h'⟩ := at_some h
    rw [ren, at?, rens_map, List.length_map, if_pos ⟨k1, k2⟩, List.getElem?_map, e]
    exact ren_at f h'
def Sgn (ss : List Str) (m : Maze) : Prop := ∀ p b, at? m p = some b → b.sign ∈ ss
theorem Sgn.root {ss : List Str} {s : Str} {bs : List Maze} (h : Sgn ss (.mk s bs)) : s ∈ ss := h [] (.mk s bs) (by rw [at?])
theorem Sgn.kid {ss : List Str} {s : Str} {bs : List Maze} (h : Sgn ss (.mk s bs)) {b : Maze} (hb : b ∈ bs) : Sgn ss b := fun p c hc => by
  obtain ⟨i, hi, e⟩ := List.mem_iff_getElem.mp hb
  refine h ((((i : Nat) : Int) + 1) :: p) c ?_
  rw [at?, if_pos (by omega), show ((((i : Nat) : Int) + 1) - 1).toNat = i by omega, List.getElem?_eq_getElem hi, e]
  exact hc
theorem ren_wf {f : Str → Str} {ss : List Str} (hf : ∀ s ∈ ss, Sn (f s)) : ∀ (k : Nat) (m : Maze), m.size ≤ k → m.Wf → Sgn ss m → (ren f m).Wf
  | 0, .mk s bs, hk, _, _ => by rw [size] at hk; omega
  | k + 1, .mk s bs, hk, w, h => by
    rw [ren, rens_map]
    refine wf_mk (hf s h.root) (by rw [List.length_map]; exact w.two) fun c hc => ?_
    obtain ⟨b, hb, rfl⟩ := List.mem_map.mp hc
    exact ren_wf hf k b (by have := kid_size hb; rw [size] at hk; omega) (w.mem hb) (h.kid hb)
end Maze
def renDeed (g : Str → Str) (pl : Int → Int) : Deed → Deed
  | .stop w => .stop (g w)
  | .go a b => .go a (pl b)
def renStd (pl : Int → Int) (x : Std) : Std := ⟨x.path, x.door, pl x.st⟩
def renRes (g : Str → Str) (pl : Int → Int) : Res → Res
  | .out k => .out (pl k)
  | .ever => .ever
  | .stop w => .stop (g w)
structure RenR (f g : Str → Str) (pl : Int → Int) (ss : List Str) (R R' : Rob) : Prop where
  len : R'.length = R.length
  inj : ∀ q q' : Int, 0 ≤ q → q < R.length → 0 ≤ q' → q' < R.length → pl q = pl q' → q = q'
  zero : pl 0 = 0
  deed : ∀ q : Int, 0 ≤ q → q < R.length → ∀ s ∈ ss, ∀ d : Int, deedOf (R'.getD (pl q).toNat []) (ruleOf (R'.getD (pl q).toNat []) (f s) d) = renDeed g pl (deedOf (R.getD q.toNat []) (ruleOf (R.getD q.toNat []) s d))
section
variable {f g : Str → Str} {pl : Int → Int} {ss : List Str} {R R' : Rob} {m : Maze}
theorem ren_step (h : RenR f g pl ss R R') (hs : m.Sgn ss) {x : Std} (hx : x.In m R) : (wStep (Maze.ren f m) R' (renStd pl x)).2 = match (wStep m R x).2 with
    | .inl r => .inl (renRes g pl r)
    | .inr y => .inr (renStd pl y) := by
  obtain ⟨⟨b, e, d0, d1⟩, s0, s1⟩ := hx
  have ws : wStep m R x = gStep R b.sign (1 + (b.brs.length : Nat)) x := by unfold wStep; rw [e]
  have ws2 : wStep (Maze.ren f m) R' (renStd pl x) = gStep R' (f b.sign) (1 + (b.brs.length : Nat)) (renStd pl x) := by
    unfold wStep
    simp only [renStd]
    rw [Maze.ren_at f e]
    simp only [Maze.ren_sign, Maze.ren_brs, List.length_map]
  rw [ws, ws2]
  have hd := h.deed x.st s0 s1 b.sign (hs _ _ e) (1 + (b.brs.length : Nat))
  simp only [gStep, renStd]
  rw [hd]
  cases deedOf (R.getD x.st.toNat []) (ruleOf (R.getD x.st.toNat []) b.sign (1 + (b.brs.length : Nat))) with
  | stop v => rfl
  | go a c =>
    simp only [renDeed]
    by_cases z : 0 < (x.door + a) % (1 + ((b.brs.length : Nat) : Int))
    · simp only [z, ↓reduceIte]
    · simp only [z, ↓reduceIte]
      cases x.path.getLast? <;> rfl
theorem renStd_inj (h : RenR f g pl ss R R') {x y : Std} (hx : x.In m R) (hy : y.In m R) (e : renStd pl x = renStd pl y) : x = y := by
  obtain ⟨p, d, s⟩ := x
  obtain ⟨p', d', s'⟩ := y
  simp only [renStd, Std.mk.injEq] at e ⊢
  exact ⟨e.1, e.2.1, h.inj _ _ hx.s0 hx.s1 hy.s0 hy.s1 e.2.2⟩
theorem ren_run (h : RenR f g pl ss R R') (hR : RobWf R) (hs : m.Sgn ss) : ∀ (k : Nat) (seen : List Std) (x : Std), (∀ y ∈ seen, y.In m R) → x.In m R →
    wRun (Maze.ren f m) R' k (seen.map (renStd pl)) (renStd pl x) = (renRes g pl (wRun m R k seen x).1, (wRun m R k seen x).2.map (renStd pl))
  | 0, _, _, _, _ => rfl
  | k + 1, seen, x, hse, hx => by
    rw [wRun, wRun]
    have hm : renStd pl x ∈ seen.map (renStd pl) ↔ x ∈ seen := by
      constructor
      · intro z
        obtain ⟨y, hy, e⟩ := List.mem_map.mp z
        rw [← renStd_inj h (hse y hy) hx e]
        exact hy
      · exact fun z => List.mem_map_of_mem z
    by_cases z : x ∈ seen
    · rw [if_pos z, if_pos (hm.mpr z)]
      rfl
    · rw [if_neg z, if_neg fun y => z (hm.mp y), ren_step h hs hx]
      have e1 : seen.map (renStd pl) ++ [renStd pl x] = (seen ++ [x]).map (renStd pl) := by rw [List.map_append]; rfl
      have nxt := (step_in hR hx).2
      cases e : (wStep m R x).2 with
      | inl r =>
        simp only
        rw [e1]
      | inr y =>
        simp only
        rw [e1]
        refine ren_run h hR hs k _ y (fun z hz => ?_) (nxt y e)
        rcases List.mem_append.mp hz with q | q
        · exact hse z q
        · rw [List.mem_singleton.mp q]; exact hx
theorem ren_go (h : RenR f g pl ss R R') (hR : RobWf R) (hs : m.Sgn ss) : goOf (Maze.ren f m) R' 0 = (renRes g pl (goOf m R 0).1, (goOf m R 0).2.map (renStd pl)) := by
  have one := hR.one
  have e := ren_run (m := m) h hR hs (3 * m.size * R.length + 1) [] (gate 0) (by simp) (gate_in (Int.le_refl 0) (by omega))
  have e0 : renStd pl (gate 0) = gate 0 := by
    simp only [renStd, gate, h.zero]
  rw [e0] at e
  unfold goOf
  rw [Maze.ren_size, h.len]
  exact e
end
inductive TurnL (f g : Str → Str) (pl : Int → Int) : List Rl → List Rl → Prop
  | nil : TurnL f g pl [] []
  | one {rs rs' : List Rl} {r : Rl} : TurnL f g pl rs rs' → TurnL f g pl (rs ++ [r]) (rs' ++ [⟨r.sg.map f, r.dr, renDeed g pl r.dd⟩])
  | two {rs rs' : List Rl} {r : Rl} {d : Deed} : TurnL f g pl rs rs' → TurnL f g pl (rs ++ [r]) (rs' ++ [⟨r.sg.map f, r.dr, renDeed g pl r.dd⟩, ⟨r.sg.map f, r.dr, d⟩])
section
variable {f g : Str → Str} {pl : Int → Int} {ss : List Str}
theorem deed_find (s : Str) (q : Int) (rs : List Rl) : deedOf rs (ruleOf rs s q) = match rs.find? (Rl.fits s q) with
    | none => .stop "lost"
    | some r => r.dd := by
  rw [deed_filter, ← List.head?_filter]
  cases rs.filter (Rl.fits s q) <;> rfl
theorem fits_ren (hf : ∀ s ∈ ss, ∀ t ∈ ss, f s = f t → s = t) {r : Rl} (hr : ∀ t, r.sg = some t → t ∈ ss) {s : Str} (hs : s ∈ ss) {q : Int} {d : Deed} : Rl.fits (f s) q ⟨r.sg.map f, r.dr, d⟩ = Rl.fits s q r := by
  unfold Rl.fits
  simp only
  congr 1
  cases e : r.sg with
  | none => rfl
  | some t =>
    simp only [Option.map_some, fitS]
    by_cases z : t = s
    · rw [z]; simp
    · rw [decide_eq_false z, decide_eq_false fun y => z (hf t (hr t e) s hs y)]
theorem turn_find (hf : ∀ s ∈ ss, ∀ t ∈ ss, f s = f t → s = t) {rs rs' : List Rl} (h : TurnL f g pl rs rs') : (∀ r ∈ rs, ∀ t, r.sg = some t → t ∈ ss) → ∀ s ∈ ss, ∀ q : Int, (rs'.find? (Rl.fits (f s) q)).map (·.dd) = ((rs.find? (Rl.fits s q)).map (·.dd)).map (renDeed g pl) := by
  induction h with
  | nil => intro _ s _ q; rfl
  | @one rs rs' r t ih =>
    intro hr s hs q
    have ih' := ih (fun x hx => hr x (List.mem_append_left _ hx)) s hs q
    have fr := fits_ren hf (hr r (by simp)) hs (q := q) (d := renDeed g pl r.dd)
    rw [List.find?_append, List.find?_append]
    cases e1 : rs.find? (Rl.fits s q) with
    | some x =>
      rw [e1] at ih'
      cases e2 : rs'.find? (Rl.fits (f s) q) with
      | some y => rw [e2] at ih'; exact ih'
      | none => rw [e2] at ih'; cases ih'
    | none =>
      rw [e1] at ih'
      cases e2 : rs'.find? (Rl.fits (f s) q) with
      | some y => rw [e2] at ih'; cases ih'
      | none =>
        simp only [Option.none_or, List.find?_cons, List.find?_nil, fr]
        cases Rl.fits s q r <;> rfl
  | @two rs rs' r d t ih =>
    intro hr s hs q
    have ih' := ih (fun x hx => hr x (List.mem_append_left _ hx)) s hs q
    have fr := fits_ren hf (hr r (by simp)) hs (q := q) (d := renDeed g pl r.dd)
    have fr2 := fits_ren hf (hr r (by simp)) hs (q := q) (d := d)
    rw [List.find?_append, List.find?_append]
    cases e1 : rs.find? (Rl.fits s q) with
    | some x =>
      rw [e1] at ih'
      cases e2 : rs'.find? (Rl.fits (f s) q) with
      | some y => rw [e2] at ih'; exact ih'
      | none => rw [e2] at ih'; cases ih'
    | none =>
      rw [e1] at ih'
      cases e2 : rs'.find? (Rl.fits (f s) q) with
      | some y => rw [e2] at ih'; cases ih'
      | none =>
        simp only [Option.none_or, List.find?_cons, List.find?_nil, fr, fr2]
        cases Rl.fits s q r <;> rfl
theorem turn_deed (hf : ∀ s ∈ ss, ∀ t ∈ ss, f s = f t → s = t) (hl : g "lost" = "lost") {rs rs' : List Rl} (h : TurnL f g pl rs rs') (hr : ∀ r ∈ rs, ∀ t, r.sg = some t → t ∈ ss) {s : Str} (hs : s ∈ ss) {q : Int} : deedOf rs' (ruleOf rs' (f s) q) = renDeed g pl (deedOf rs (ruleOf rs s q)) := by
  have := turn_find hf h hr s hs q
  rw [deed_find, deed_find]
  cases e1 : rs.find? (Rl.fits s q) with
  | some x =>
    rw [e1] at this
    cases e2 : rs'.find? (Rl.fits (f s) q) with
    | some y => rw [e2] at this; exact Option.some.inj this
    | none => rw [e2] at this; cases this
  | none =>
    rw [e1] at this
    cases e2 : rs'.find? (Rl.fits (f s) q) with
    | some y => rw [e2] at this; cases this
    | none => simp only [renDeed, hl]
end
end PD
namespace PD
open PySem PySem.Spec PyProof.Rows L2
def aft (m : Maze) (R : Rob) : Nat → Std → Option Std
  | 0, x => some x
  | n + 1, x => match (wStep m R x).2 with
    | .inr y => aft m R n y
    | .inl _ => none
def Std.pre (k : Int) (x : Std) : Std := ⟨k :: x.path, x.door, x.st⟩
def Leg.at (l : Leg) : Int × Int := (l.door, l.st)
structure Chain (R : Rob) (s : Str) (G : List (List Res)) (x0 : Int × Int) (ls : List Leg) (e : Res ⊕ (Int × Int)) : Prop where
  one : ∀ l ∈ ls, l = (legStep R s G l.at).1 ∧ 0 ≤ l.door ∧ l.door < ((1 + G.length : Nat) : Int) ∧ 0 ≤ l.st ∧ l.st < R.length
  two : ∀ j l l', ls[j]? = some l → ls[j + 1]? = some l' → (legStep R s G l.at).2 = .inr l'.at
  fst : ∀ l, ls[0]? = some l → l.at = x0
  lst : ∀ l, ls.getLast? = some l → (legStep R s G l.at).2 = e
  non : ls = [] → e = .inr x0
theorem legStep_at (R : Rob) (s : Str) (G : List (List Res)) (x : Int × Int) : (legStep R s G x).1.at = x := by
  unfold legStep Leg.at
  simp only
  split
  · rfl
  · split <;> rfl
theorem Chain.snoc {R : Rob} {s : Str} {G : List (List Res)} {x0 x : Int × Int} {ls : List Leg} (c : Chain R s G x0 ls (.inr x)) (hx : 0 ≤ x.1 ∧ x.1 < ((1 + G.length : Nat) : Int) ∧ 0 ≤ x.2 ∧ x.2 < (R.length : Nat)) :
    Chain R s G x0 (ls ++ [(legStep R s G x).1]) (legStep R s G x).2 := by
  have ea := legStep_at R s G x
  refine ⟨fun l hl => ?_, fun j l l' h1 h2 => ?_, fun l h => ?_, fun l h => ?_, fun h => by simp at h⟩
  · rcases List.mem_append.mp hl with h | h
    · exact c.one l h
    · rw [List.mem_singleton.mp h, ea]
      refine ⟨rfl, ?_⟩
      have e1 : (legStep R s G x).1.door = x.1 := congrArg Prod.fst ea
      have e2 : (legStep R s G x).1.st = x.2 := congrArg Prod.snd ea
      rw [e1, e2]
      exact hx
  · by_cases hj : j + 1 < ls.length
    · rw [List.getElem?_append_left (by omega)] at h1 h2
      exact c.two j l l' h1 h2
    · have lj := (List.getElem?_eq_some_iff.mp h2).1
      rw [List.length_append, List.length_singleton] at lj
      have hj : j + 1 = ls.length := by omega
      rw [List.getElem?_append_left (by omega)] at h1
      rw [hj, List.getElem?_append_right (Nat.le_refl _), Nat.sub_self] at h2
      cases h2
      rw [ea]
      refine c.lst l ?_
      rw [List.getLast?_eq_getElem?, ← hj]
      exact h1
  · cases hl : ls with
    | nil =>
      rw [hl] at h
      cases h
      rw [ea]
      have := c.non hl
      cases this
      rfl
    | cons a t =>
      refine c.fst l ?_
      rw [hl] at h ⊢
      exact h
  · rw [List.getLast?_append, List.getLast?_singleton, Option.some_or] at h
    cases h
    rw [ea]
structure Ring (R : Rob) (s : Str) (G : List (List Res)) (st : Int) (L : List Leg) (ag : Option Nat) : Prop where
  one : ∀ l ∈ L, l = (legStep R s G l.at).1 ∧ 0 ≤ l.door ∧ l.door < ((1 + G.length : Nat) : Int) ∧ 0 ≤ l.st ∧ l.st < R.length
  fst : ∃ l, L[0]? = some l ∧ l.at = (0, st)
  ag_lt : ∀ a, ag = some a → a < L.length
  fin : ∀ (j : Nat) (l : Leg), L[j]? = some l → j + 1 = L.length → ag = none → ∃ r, (legStep R s G l.at).2 = .inl r
  nxt : ∀ (j : Nat) (l : Leg), L[j]? = some l → j + 1 < L.length → ∃ l', L[j + 1]? = some l' ∧ (legStep R s G l.at).2 = .inr l'.at
  rnd : ∀ (j : Nat) (l : Leg), L[j]? = some l → j + 1 = L.length → ∀ a, ag = some a → ∃ la, L[a]? = some la ∧ (legStep R s G l.at).2 = .inr la.at
end PD
namespace PD
open PySem PySem.Spec PyProof.Rows L2
end PD
namespace PD
open PySem PySem.Spec PyProof.Rows L2
def Vis (m : Maze) (R : Rob) (st : Int) (z : Std) : Prop := ∃ n, aft m R n (gate st) = some z
theorem Ring.next {R : Rob} {s : Str} {G : List (List Res)} {st : Int} {L : List Leg} {ag : Option Nat} (r : Ring R s G st L ag) {l : Leg} (hl : l ∈ L) {y : Int × Int} (h : (legStep R s G l.at).2 = .inr y) : ∃ l' ∈ L, l'.at = y := by
  obtain ⟨j, hj, rfl⟩ := List.mem_iff_getElem.mp hl
  have e := List.getElem?_eq_getElem hj
  rcases Nat.lt_or_ge (j + 1) L.length with q | q
  · obtain ⟨l', e1, e2⟩ := r.nxt j _ e q
    rw [h] at e2
    exact ⟨l', List.mem_of_getElem? e1, by cases e2; rfl⟩
  · cases ha : ag with
    | none =>
      obtain ⟨x, hx⟩ := r.fin j _ e (by omega) ha
      rw [h] at hx
      cases hx
    | some a =>
      obtain ⟨la, e1, e2⟩ := r.rnd j _ e (by omega) a ha
      rw [h] at e2
      exact ⟨la, List.mem_of_getElem? e1, by cases e2; rfl⟩
section
variable {R : Rob} {s : Str} {bs : List Maze} {st : Int}
def Meets (m : Maze) (R : Rob) (g : Str) (st : Int) : Prop := ∃ z, Vis m R st z ∧ ∃ r, Maze.at? m z.path = some r ∧ r.sign = g
end
end PD
namespace PD
open PySem PySem.Spec PyProof.Rows L2
def Asc (n : Nat) (row : List Int) : Prop := row.Pairwise (· < ·) ∧ ∀ x ∈ row, 0 ≤ x ∧ x < n
theorem Asc.len {n : Nat} {row : List Int} (h : Asc n row) : row.length ≤ n := by
  have nd : (row.map Int.toNat).Nodup := by
    unfold List.Nodup
    rw [List.pairwise_map]
    refine List.Pairwise.imp_of_mem ?_ h.1
    intro a b ha hb hlt
    have := h.2 a ha
    have := h.2 b hb
    omega
  have := nodup_lt n nd fun x hx => by
    obtain ⟨y, hy, rfl⟩ := List.mem_map.mp hx
    have := h.2 y hy
    omega
  rw [List.length_map] at this
  exact this
inductive Ans where
  | res (rs : List Res)
  | flg (rs : List Res) (fs : List Bool)
  | lot (rs : List Res) (ls : List (List Int))
  | num (k : Int)
instance : Inhabited Ans := ⟨.num 0⟩
def Ans.d : Ans → PyData
  | .res rs => resD rs
  | .flg rs fs => .tuple [resD rs, .tuple (fs.map .bool)]
  | .lot rs ls => .tuple [resD rs, .tuple (ls.map pk)]
  | .num k => .int k
def Ans.rs : Ans → List Res
  | .res rs => rs
  | .flg rs _ => rs
  | .lot rs _ => rs
  | .num _ => []
def Ans.fs : Ans → List Bool
  | .flg _ fs => fs
  | _ => []
def Ans.ls : Ans → List (List Int)
  | .lot _ ls => ls
  | _ => []
def Ans.k : Ans → Int
  | .num k => k
  | _ => 0
end PD
namespace PD
open PySem PySem.Spec PyProof.Rows L2
theorem size_pos : ∀ m : Maze, 1 ≤ m.size
  | .mk s bs => by rw [Maze.size]; omega
end PD
namespace PD
open PySem PySem.Spec PyProof.Rows L2
structure EqE {α : Type} [DecidableEq α] (enc : α → PyData) : Prop where
  eqv : ∀ x y, PyData.eqv (enc x) (enc y) = decide (x = y)
  lay : ∀ x, (enc x).canLay0 = true
  dep : ∀ x, (enc x).depth ≤ 100
section
variable {α : Type} [DecidableEq α] {enc : α → PyData}
theorem EqE.any (E : EqE enc) (x : α) (xs : List α) : ((xs.map enc).any fun y => PyData.eqv y (enc x)) = decide (x ∈ xs) := by
  rw [List.any_map, Bool.eq_iff_iff, List.any_eq_true, decide_eq_true_eq]
  constructor
  · rintro ⟨p, hp, h⟩
    simp only [Function.comp, E.eqv, decide_eq_true_eq] at h
    rw [← h]
    exact hp
  · exact fun h => ⟨x, h, by simp [E.eqv]⟩
end
theorem words : (Str.ofString "is" = Str.ofString "meets") = False ∧ (Str.ofString "is" = Str.ofString "uses") = False ∧ (Str.ofString "is" = Str.ofString "sees") = False ∧ (Str.ofString "is" = Str.ofString "count") = False ∧ (Str.ofString "is" = Str.ofString "deep") = False ∧ (Str.ofString "is" = Str.ofString "not") = False ∧ (Str.ofString "is" = Str.ofString "and") = False ∧ (Str.ofString "is" = Str.ofString "or") = False ∧ (Str.ofString "meets" = Str.ofString "is") = False ∧ (Str.ofString "meets" = Str.ofString "uses") = False ∧ (Str.ofString "meets" = Str.ofString "sees") = False ∧ (Str.ofString "meets" = Str.ofString "count") = False ∧ (Str.ofString "meets" = Str.ofString "deep") = False ∧ (Str.ofString "meets" = Str.ofString "not") = False ∧ (Str.ofString "meets" = Str.ofString "and") = False ∧ (Str.ofString "meets" = Str.ofString "or") = False ∧ (Str.ofString "uses" = Str.ofString "is") = False ∧ (Str.ofString "uses" = Str.ofString "meets") = False ∧ (Str.ofString "uses" = Str.ofString "sees") = False ∧ (Str.ofString "uses" = Str.ofString "count") = False ∧ (Str.ofString "uses" = Str.ofString "deep") = False ∧ (Str.ofString "uses" = Str.ofString "not") = False ∧ (Str.ofString "uses" = Str.ofString "and") = False ∧ (Str.ofString "uses" = Str.ofString "or") = False ∧ (Str.ofString "sees" = Str.ofString "is") = False ∧ (Str.ofString "sees" = Str.ofString "meets") = False ∧ (Str.ofString "sees" = Str.ofString "uses") = False ∧ (Str.ofString "sees" = Str.ofString "count") = False ∧ (Str.ofString "sees" = Str.ofString "deep") = False ∧ (Str.ofString "sees" = Str.ofString "not") = False ∧ (Str.ofString "sees" = Str.ofString "and") = False ∧ (Str.ofString "sees" = Str.ofString "or") = False ∧ (Str.ofString "count" = Str.ofString "is") = False ∧ (Str.ofString "count" = Str.ofString "meets") = False ∧ (Str.ofString "count" = Str.ofString "uses") = False ∧ (Str.ofString "count" = Str.ofString "sees") = False ∧ (Str.ofString "count" = Str.ofString "deep") = False ∧ (Str.ofString "count" = Str.ofString "not") = False ∧ (Str.ofString "count" = Str.ofString "and") = False ∧ (Str.ofString "count" = Str.ofString "or") = False ∧ (Str.ofString "deep" = Str.ofString "is") = False ∧ (Str.ofString "deep" = Str.ofString "meets") = False ∧ (Str.ofString "deep" = Str.ofString "uses") = False ∧ (Str.ofString "deep" = Str.ofString "sees") = False ∧ (Str.ofString "deep" = Str.ofString "count") = False ∧ (Str.ofString "deep" = Str.ofString "not") = False ∧ (Str.ofString "deep" = Str.ofString "and") = False ∧ (Str.ofString "deep" = Str.ofString "or") = False ∧ (Str.ofString "not" = Str.ofString "is") = False ∧ (Str.ofString "not" = Str.ofString "meets") = False ∧ (Str.ofString "not" = Str.ofString "uses") = False ∧ (Str.ofString "not" = Str.ofString "sees") = False ∧ (Str.ofString "not" = Str.ofString "count") = False ∧ (Str.ofString "not" = Str.ofString "deep") = False ∧ (Str.ofString "not" = Str.ofString "and") = False ∧ (Str.ofString "not" = Str.ofString "or") = False ∧ (Str.ofString "and" = Str.ofString "is") = False ∧ (Str.ofString "and" = Str.ofString "meets") = False ∧ (Str.ofString "and" = Str.ofString "uses") = False ∧ (Str.ofString "and" = Str.ofString "sees") = False ∧ (Str.ofString "and" = Str.ofString "count") = False ∧ (Str.ofString "and" = Str.ofString "deep") = False ∧ (Str.ofString "and" = Str.ofString "not") = False ∧ (Str.ofString "and" = Str.ofString "or") = False ∧ (Str.ofString "or" = Str.ofString "is") = False ∧ (Str.ofString "or" = Str.ofString "meets") = False ∧ (Str.ofString "or" = Str.ofString "uses") = False ∧ (Str.ofString "or" = Str.ofString "sees") = False ∧ (Str.ofString "or" = Str.ofString "count") = False ∧ (Str.ofString "or" = Str.ofString "deep") = False ∧ (Str.ofString "or" = Str.ofString "not") = False ∧ (Str.ofString "or" = Str.ofString "and") = False := by
  refine ⟨eq_false (by decide +kernel), eq_false (by decide +kernel), eq_false (by decide +kernel), eq_false (by decide +kernel), eq_false (by decide +kernel), eq_false (by decide +kernel), eq_false (by decide +kernel), eq_false (by decide +kernel), eq_false (by decide +kernel), eq_false (by decide +kernel), eq_false (by decide +kernel), eq_false (by decide +kernel), eq_false (by decide +kernel), eq_false (by decide +kernel), eq_false (by decide +kernel), eq_false (by decide +kernel), eq_false (by decide +kernel), eq_false (by decide +kernel), eq_false (by decide +kernel), eq_false (by decide +kernel), eq_false (by decide +kernel), eq_false (by decide +kernel), eq_false (by decide +kernel), eq_false (by decide +kernel), eq_false (by decide +kernel), eq_false (by decide +kernel), eq_false (by decide +kernel), eq_false (by decide +kernel), eq_false (by decide +kernel), eq_false (by decide +kernel), eq_false (by decide +kernel), eq_false (by decide +kernel), eq_false (by decide +kernel), eq_false (by decide +kernel), eq_false (by decide +kernel), eq_false (by decide +kernel), eq_false (by decide +kernel), eq_false (by decide +kernel), eq_false (by decide +kernel), eq_false (by decide +kernel), eq_false (by decide +kernel), eq_false (by decide +kernel), eq_false (by decide +kernel), eq_false (by decide +kernel), eq_false (by decide +kernel), eq_false (by decide +kernel), eq_false (by decide +kernel), eq_false (by decide +kernel), eq_false (by decide +kernel), eq_false (by decide +kernel), eq_false (by decide +kernel), eq_false (by decide +kernel), eq_false (by decide +kernel), eq_false (by decide +kernel), eq_false (by decide +kernel), eq_false (by decide +kernel), eq_false (by decide +kernel), eq_false (by decide +kernel), eq_false (by decide +kernel), eq_false (by decide +kernel), eq_false (by decide +kernel), eq_false (by decide +kernel), eq_false (by decide +kernel), eq_false (by decide +kernel), eq_false (by decide +kernel), eq_false (by decide +kernel), eq_false (by decide +kernel), eq_false (by decide +kernel), eq_false (by decide +kernel), eq_false (by decide +kernel), eq_false (by decide +kernel), eq_false (by decide +kernel)⟩
end PD
namespace PD
open PySem PySem.Spec PyProof.Rows L2
namespace Maze
end Maze
end PD
namespace PD
open PySem PySem.Spec PyProof.Rows L2
end PD
namespace Wk
open PySem PySem.Spec PyProof.Rows L2 PD
def m_behind_doors_1 : SM := sRet (eLc (i1 rev1V (eA1 lenV (eV 1))) (gSet 2) (bYes) (eA mkTup (aC (e2 addV (eV 0) (eA mkTup (aC (e2 addV (eV 2) (eC (.int 1))) (aN)))) (aC (e2 ixV (eV 1) (eV 2)) (aN)))) [2])
def m_behind_doors : SM := m_behind_doors_1
theorem m_behind_doors_1_E {fr : Fr} {S : Store} : m_behind_doors_1 fr S = (sRet (eLc (i1 rev1V (eA1 lenV (eV 1))) (gSet 2) (bYes) (eA mkTup (aC (e2 addV (eV 0) (eA mkTup (aC (e2 addV (eV 2) (eC (.int 1))) (aN)))) (aC (e2 ixV (eV 1) (eV 2)) (aN)))) [2])) fr S := rfl
theorem m_behind_doors_E {fr : Fr} {S : Store} : m_behind_doors fr S = (m_behind_doors_1) fr S := rfl
def F_behind_doors : FN := bodyF 3 m_behind_doors
def m_room_paths_1 : SM := sPar [1, 2] 5 (aC (eA mkLst (aC (eA mkTup (aC (eA mkTup (aN)) (aC (eV 0) (aN)))) (aN))) (aC (eA mkLst (aN)) (aN)))
def m_room_paths_3 : SM := sAsg (ggTup 2 (ggCons (gSet 3) (ggCons (gSet 4) (ggNil)))) (fPop 1)
def m_room_paths_4 : SM := sApp 2 (eA mkTup (aC (eV 3) (aC (eV 4) (aN))))
def m_room_paths_5 : SM := sExt 1 (eCall 2 F_behind_doors (aC (eV 3) (aC (e2 ixV (eV 4) (eC (.int 1))) (aN))))
def m_room_paths_2 : SM := sWhile (bB (e2 (eqV true) (eP 1) (eA mkLst (aN)))) (sSeq m_room_paths_3 (sSeq m_room_paths_4 m_room_paths_5))
def m_room_paths_6 : SM := sRet (eV 2)
def m_room_paths : SM := sSeq m_room_paths_1 (sSeq m_room_paths_2 m_room_paths_6)
theorem m_room_paths_1_E {fr : Fr} {S : Store} : m_room_paths_1 fr S = (sPar [1, 2] 5 (aC (eA mkLst (aC (eA mkTup (aC (eA mkTup (aN)) (aC (eV 0) (aN)))) (aN))) (aC (eA mkLst (aN)) (aN)))) fr S := rfl
theorem m_room_paths_3_E {fr : Fr} {S : Store} : m_room_paths_3 fr S = (sAsg (ggTup 2 (ggCons (gSet 3) (ggCons (gSet 4) (ggNil)))) (fPop 1)) fr S := rfl
theorem m_room_paths_4_E {fr : Fr} {S : Store} : m_room_paths_4 fr S = (sApp 2 (eA mkTup (aC (eV 3) (aC (eV 4) (aN))))) fr S := rfl
theorem m_room_paths_5_E {fr : Fr} {S : Store} : m_room_paths_5 fr S = (sExt 1 (eCall 2 F_behind_doors (aC (eV 3) (aC (e2 ixV (eV 4) (eC (.int 1))) (aN))))) fr S := rfl
theorem m_room_paths_2_E {fr : Fr} {S : Store} : m_room_paths_2 fr S = (sWhile (bB (e2 (eqV true) (eP 1) (eA mkLst (aN)))) (sSeq m_room_paths_3 (sSeq m_room_paths_4 m_room_paths_5))) fr S := rfl
theorem m_room_paths_6_E {fr : Fr} {S : Store} : m_room_paths_6 fr S = (sRet (eV 2)) fr S := rfl
theorem m_room_paths_E {fr : Fr} {S : Store} : m_room_paths fr S = (sSeq m_room_paths_1 (sSeq m_room_paths_2 m_room_paths_6)) fr S := rfl
def F_room_paths : FN := bodyF 5 m_room_paths
local macro_rules
  | `(tactic| walk_at "go") => `(tactic| simp only [sSeq, ssat_next, ssat_toS, ssat_nx, ssat_rt, ssat_bk, ssat_ct, ssat_bad, ssat_ite, if_false_right, sat_ok, sat_bad, sat_exc, sat_bind, sat_ite, sPutO, sPutI, sPutD, eD, ownD, sAsg, fE, sIf, sNx, sRet, sDrop, sOwn, sApp, sExt, sPar, sFor, e1, e2, eV, eC, eA, eA1, aC, aN, eSl, oN, oS, eP, eM1, eIf, eCall, eChain, eJ, jC, jN, bB, bTr, bAnd, bOr, bNot, eAnd, eOr, eNot, bYes, iSeq, iA, ofG, ofO, fmtV, strV, tupleV, listV, iaddV, PD.eq_int, PD.eq_str, eq_self, gSet, ggNil, ggCons, ggTup, mkTup, mkLst, mkObj, asDs, asD, ownL,
      List.map_cons, List.map_nil, List.cons_append, List.nil_append, List.length_cons, List.length_nil, List.length_set, List.replicate, List.getElem?_cons_succ, List.getElem?_cons_zero, List.getElem?_nil, List.set_cons_succ, List.set_cons_zero, List.all_cons, List.all_nil, setAll, Option.map_some, Option.map_none, Option.bind_some, Option.bind_none,
      ixV, addV, subV, mulV, modV, divV, powV, negV, lenV, intV, absI, enumV, iterV, PD.slV, boolV, truthV, ltD, revA, ltV, gtV, leV, geV, isV, isNone, L2.atI, ixN, Bool.false_xor, Bool.true_xor, Bool.not_true, Bool.not_false, Bool.and_true, Bool.true_and, Bool.and_false, Bool.false_and, decide_true, decide_false, decide_eq_true_eq, Bool.and_eq_true, if_true, if_false, reduceIte, Bool.false_eq_true, Str.empty_append, List.length_append, ite_true, ite_false, true_and, and_true, Int.cast_ofNat_Int, Nat.reduceAdd, Nat.reduceSub, Nat.reduceLT, Int.reduceLT, Int.reduceLE, Int.reduceToNat, Nat.lt_add_one])
local macro_rules
  | `(tactic| walk_at "g0") => `(tactic| simp only [sSeq, ssat_next, ssat_toS, ssat_nx, ssat_rt, ssat_bk, ssat_ct, ssat_bad, ssat_ite, if_false_right, sat_ok, sat_bad, sat_exc, sat_bind, sat_ite, sPutO, sPutI, sPutD, eD, ownD, sAsg, fE, sIf, sNx, sRet, sDrop, sOwn, sApp, sExt, sPar, sFor, e1, e2, eV, eC, eA, eA1, aC, aN, eSl, oN, oS, eP, eM1, eIf, eCall, eChain, eJ, jC, jN, bB, bTr, bAnd, bOr, bNot, eAnd, eOr, eNot, bYes, iSeq, iA, ofG, ofO, fmtV, strV, tupleV, listV, iaddV, PD.eq_int, PD.eq_str, eq_self, gSet, ggNil, ggCons, ggTup, mkTup, mkLst, mkObj, asDs, asD, ownL,
      List.map_cons, List.map_nil, List.cons_append, List.nil_append, List.length_cons, List.length_nil, List.length_set, List.replicate, List.getElem?_cons_succ, List.getElem?_cons_zero, List.getElem?_nil, List.set_cons_succ, List.set_cons_zero, List.all_cons, List.all_nil, setAll, ixT0, ixT1, ixT2, ixL0, ixL1, ixL2, Option.map_some, Option.map_none, Option.bind_some, Option.bind_none,
      addV, subV, mulV, modV, divV, powV, negV, lenV, intV, absI, enumV, iterV, PD.slV, boolV, truthV, ltD, revA, ltV, gtV, leV, geV, isV, isNone, Bool.false_xor, Bool.true_xor, Bool.not_true, Bool.not_false, Bool.and_true, Bool.true_and, Bool.and_false, Bool.false_and, decide_true, decide_false, decide_eq_true_eq, Bool.and_eq_true, if_true, if_false, reduceIte, Bool.false_eq_true, Str.empty_append, List.length_append, ite_true, ite_false, true_and, and_true, Int.cast_ofNat_Int, Nat.reduceAdd, Nat.reduceSub, Nat.reduceLT, Int.reduceLT, Int.reduceLE, Int.reduceToNat, Nat.lt_add_one])
local macro_rules
  | `(tactic| walk_at "g1") => `(tactic| simp only [sSeq, ssat_next, ssat_toS, ssat_nx, ssat_rt, ssat_bk, ssat_ct, ssat_bad, ssat_ite, if_false_right, sat_ok, sat_bad, sat_exc, sat_bind, sat_ite, sPutO, sPutI, sPutD, eD, ownD, sAsg, fE, sIf, sNx, sRet, sDrop, sOwn, sApp, sExt, sPar, sFor, e1, e2, eV, eC, eA, eA1, aC, aN, eSl, oN, oS, eP, eM1, eIf, eCall, eChain, eJ, jC, jN, bB, bTr, bAnd, bOr, bNot, eAnd, eOr, eNot, bYes, iSeq, iA, ofG, ofO, fmtV, strV, tupleV, listV, iaddV, PD.eq_int, PD.eq_str, eq_self, gSet, ggNil, ggCons, ggTup, mkTup, mkLst, mkObj, asDs, asD, ownL,
      List.map_cons, List.map_nil, List.cons_append, List.nil_append, List.length_cons, List.length_nil, List.length_set, List.replicate, List.getElem?_cons_succ, List.getElem?_cons_zero, List.getElem?_nil, List.set_cons_succ, List.set_cons_zero, List.all_cons, List.all_nil, setAll, ixT0, ixT1, ixT2, ixL0, ixL1, ixL2, Option.map_some, Option.map_none, Option.bind_some, Option.bind_none,
      addV, subV, mulV, modV, divV, powV, negV, lenV, intV, absI, enumV, iterV, PD.slV, boolV, truthV, ltD, revA, ltV, gtV, leV, geV, isV, isNone, Bool.false_xor, Bool.true_xor, Bool.not_true, Bool.not_false, Bool.and_true, Bool.true_and, Bool.and_false, Bool.false_and, decide_true, decide_false, decide_eq_true_eq, Bool.and_eq_true, if_true, if_false, reduceIte, Bool.false_eq_true, Str.empty_append, List.length_append, ite_true, ite_false, true_and, and_true, Int.cast_ofNat_Int, Nat.reduceAdd, Nat.reduceSub, Nat.reduceLT, Int.reduceLT, Int.reduceSub, Int.reduceAdd, Int.reduceNeg, Int.reduceLE, Int.reduceToNat, Nat.lt_add_one])
local macro_rules
  | `(tactic| walk_at "g") => `(tactic| simp only [sSeq, ssat_next, ssat_toS, ssat_nx, ssat_rt, ssat_bk, ssat_ct, ssat_bad, ssat_ite, if_false_right, sat_ok, sat_bad, sat_exc, sat_bind, sat_ite, sPutO, sPutI, sPutD, eD, ownD, sAsg, fE, sIf, sNx, sRet, sDrop, sOwn, sApp, sExt, sPar, sFor, e1, e2, eV, eC, eA, eA1, aC, aN, eSl, oN, oS, eP, eM1, eIf, eCall, eChain, eJ, jC, jN, bB, bTr, bAnd, bOr, bNot, eAnd, eOr, eNot, bYes, iSeq, iA, ofG, ofO, fmtV, strV, tupleV, listV, iaddV, PD.eq_int, PD.eq_str, eq_self, gSet, ggNil, ggCons, ggTup, mkTup, mkLst, mkObj, asDs, asD, ownL,
      List.map_cons, List.map_nil, List.cons_append, List.nil_append, List.length_cons, List.length_nil, List.length_set, List.replicate, List.getElem?_cons_succ, List.getElem?_cons_zero, List.getElem?_nil, List.set_cons_succ, List.set_cons_zero, List.all_cons, List.all_nil, setAll, ixT0, ixT1, ixT2, ixL0, ixL1, ixL2, Option.map_some, Option.map_none, Option.bind_some, Option.bind_none,
      addV, subV, mulV, modV, divV, powV, negV, lenV, intV, absI, enumV, iterV, PD.slV, boolV, truthV, ltD, revA, ltV, gtV, leV, geV, isV, isNone, Bool.false_xor, Bool.true_xor, Bool.not_true, Bool.not_false, Bool.and_true, Bool.true_and, Bool.and_false, Bool.false_and, decide_true, decide_false, decide_eq_true_eq, Bool.and_eq_true, if_true, if_false, reduceIte, Bool.false_eq_true, Str.empty_append, List.length_append, ite_true, ite_false, true_and, and_true, Int.cast_ofNat_Int, Nat.reduceAdd, Nat.reduceSub, Nat.reduceLT, Int.reduceLT, Int.reduceSub, Int.reduceAdd, Int.reduceNeg, Int.reduceLE, Int.reduceToNat, Nat.lt_add_one, beq_iff_eq, sizeLine_eq, Nat.reduceLeDiff, inV_tup, inV_lst, eqv_str, eqv_int, eqV_nilT, cutD_tail, false_and, and_false, or_true, true_or, or_false, false_or, ixT3, Bool.true_eq_false, Bool.or_eq_false_iff, decide_eq_false_iff_not, Int.not_le, Int.not_lt, beq_self_eq_true, Int.reduceBEq, Bool.not_eq_eq_eq_not, beq_eq_false_iff_ne, ne_eq, not_true_eq_false, not_false_eq_true, List.isEmpty_cons, List.isEmpty_nil, List.any_cons, List.any_nil, Bool.or_false, Bool.or_eq_true, isaV, PyData.isInt, PyData.isStr, PyData.isBool, PyData.isTuple, PyData.isList, PyData.isDict, m_behind_doors_1_E, m_behind_doors_E, m_room_paths_1_E, m_room_paths_3_E, m_room_paths_4_E, m_room_paths_5_E, m_room_paths_2_E, m_room_paths_6_E, m_room_paths_E])
local macro_rules
  | `(tactic| walk_at "gt") => `(tactic| try walk_at "go")
local macro_rules
  | `(tactic| walk_at "gq") => `(tactic| try walk_at "g0")
local macro_rules
  | `(tactic| walk_at "len") => `(tactic| (simp only [Str.length_append, PySem.ofString_length, len_nil, sizeLine_eq] at *; omega))
local macro_rules
  | `(tactic| walk_at "fin") => `(tactic| ((repeat' apply And.intro) <;> first | assumption | exact True.intro | walk_at "len" | rfl))
local macro_rules
  | `(tactic| walk_at "start") => `(tactic| (rw [sat_body]; simp only [List.map_cons, List.map_nil, List.cons_append, List.nil_append, List.length_cons, List.length_nil, Nat.reduceAdd, Nat.reduceSub, List.replicate]))
local macro_rules
  | `(tactic| walk_at "wd") => `(tactic| first | assumption | exact Wd.none | exact Wd.bool | exact Wd.small (by decide) (by decide) | exact Wd.lit (by decide) | exact Wd.dict0 | exact Wd.tup Wds.nil | exact Wd.lst Wds.nil | (refine Wd.t1 (k := 2) (a := 990) ?_ (by decide) <;> walk_at "wd") | (refine Wd.t2 (k := 2) (a := 990) (b := 990) ?_ ?_ (by decide) <;> walk_at "wd") | (refine Wd.t3 (k := 2) (a := 990) (b := 990) (c := 990) ?_ ?_ ?_ (by decide) <;> walk_at "wd") | (refine Wd.t4 (k := 2) (a := 990) (b := 990) (c := 990) (e := 990) ?_ ?_ ?_ ?_ (by decide) <;> walk_at "wd") | (refine Wd.t1 (k := 1) (a := 240) ?_ (by decide) <;> walk_at "wd") | (refine Wd.t2 (k := 1) (a := 240) (b := 240) ?_ ?_ (by decide) <;> walk_at "wd") | (refine Wd.t3 (k := 1) (a := 240) (b := 240) (c := 240) ?_ ?_ ?_ (by decide) <;> walk_at "wd") | (refine Wd.t4 (k := 1) (a := 240) (b := 240) (c := 240) (e := 240) ?_ ?_ ?_ ?_ (by decide) <;> walk_at "wd") | (refine Wd.t1 (k := 0) (a := 55) ?_ (by decide) <;> walk_at "wd") | (refine Wd.t2 (k := 0) (a := 55) (b := 55) ?_ ?_ (by decide) <;> walk_at "wd") | (refine Wd.t3 (k := 0) (a := 55) (b := 55) (c := 55) ?_ ?_ ?_ (by decide) <;> walk_at "wd") | (refine Wd.t4 (k := 0) (a := 55) (b := 55) (c := 55) (e := 55) ?_ ?_ ?_ ?_ (by decide) <;> walk_at "wd"))
open Maze (rooms roomsL doorsL pr)
theorem behind_ok {p : List Int} {bs : List Maze} {S : Store} (hb : bs.length ≤ 2) (hp : p.length ≤ 1000000) : F_behind_doors [.d (.tuple (p.map .int)), .d (.tuple (bs.map Maze.d))] S = .ok (.d (.list ((doorsL p 1 bs).reverse.map pr))) S := by
  have sz : sizeLine = 16777216 := sizeLine_eq
  have e0 : ∀ k : Int, p.map PyData.int ++ [.int k] = (p ++ [k]).map .int := fun k => by rw [List.map_append]; rfl
  have rg : ∀ (k : Nat) (S : Store), k ≤ 2 → rev1V (.d (.int k)) S = .ok (revL 0 k) S := fun k S h => by
    show (if big62 k = true then Rs.ok (revL 0 k) S else .bad) = _
    rw [if_pos (by simp only [big62, Bool.and_eq_true, decide_eq_true_eq]; omega)]
  refine sat_eq ?_
  unfold F_behind_doors
  walk_at "start"
  simp only [m_behind_doors, m_behind_doors_1]
  walk_at "go"
  simp only [eLc, i1]
  walk_at "go"
  rw [rg _ _ (by simpa using hb)]
  walk_at "go"
  have each : ∀ (bs : List Maze) (ys : List Int), bs.length ≤ 2 → (∀ y ∈ ys, 0 ≤ y ∧ y < bs.length) → ∀ fr : Fr, fr = [some (.d (.tuple (p.map .int))), some (.d (.tuple (bs.map Maze.d))), none] → ∀ y ∈ ys, ∃ fr1, gSet 2 (.d (.int y)) (wipeF fr [2]) = some fr1 ∧
      (eA mkTup (aC (e2 addV (eV 0) (eA mkTup (aC (e2 addV (eV 2) (eC (.int 1))) (aN)))) (aC (e2 ixV (eV 1) (eV 2)) (aN)))) fr1 S = .ok (.d (.tuple [.tuple ((p ++ [y + 1]).map .int), (bs.map Maze.d).getD y.toNat .none])) S := fun bs ys hb hy fr hfr y hm => by
    subst hfr
    refine ⟨_, rfl, sat_eq ?_⟩
    obtain ⟨y0, y1⟩ := hy y hm
    simp only [wipeF]
    walk_at "g0"
    have at_ : ixV (.d (.tuple (bs.map Maze.d))) (.d (.int y)) S = .ok (.d ((bs.map Maze.d).getD y.toNat .none)) S := by
      simp only [ixV, L2.atI, ixN]
      rw [if_pos y0, if_pos (by simpa using y1)]
      rw [Option.bind_some, List.getD_eq_getElem?_getD, List.getElem?_eq_getElem (by simp; omega)]
      rfl
    rw [at_]
    walk_at "g0"
    refine ⟨by omega, by rw [List.length_map]; omega, by omega, ?_⟩
    rw [← e0]
  rcases Maze.two_cases hb with rfl | ⟨a, rfl⟩ | ⟨a, b, rfl⟩
  · rw [show revL 0 (([] : List Maze).map Maze.d).length = (([] : List Int).map PyData.int).map .d from rfl, comp_map (f := fun y => .tuple [.tuple ((p ++ [y + 1]).map .int), (([] : List Maze).map Maze.d).getD y.toNat .none]) (each [] [] (by simp) (by simp) _ rfl) (by simp)]
    walk_at "go"
    trivial
  · rw [show revL 0 ([a].map Maze.d).length = (([0] : List Int).map PyData.int).map .d from rfl, comp_map (f := fun y => .tuple [.tuple ((p ++ [y + 1]).map .int), ([a].map Maze.d).getD y.toNat .none]) (each [a] [0] (by simp) (by simp) _ rfl) (by simp; omega)]
    walk_at "go"
    trivial
  · rw [show revL 0 ([a, b].map Maze.d).length = (([1, 0] : List Int).map PyData.int).map .d from rfl, comp_map (f := fun y => .tuple [.tuple ((p ++ [y + 1]).map .int), ([a, b].map Maze.d).getD y.toNat .none]) (each [a, b] [1, 0] (by simp) (by simp) _ rfl) (by simp; omega)]
    walk_at "go"
    trivial
theorem doors_sizes (p : List Int) : ∀ (k : Int) (bs : List Maze), ((doorsL p k bs).map fun q => q.2.size).sum = Maze.sizes bs
  | k, [] => by simp [doorsL, Maze.sizes]
  | k, m :: r => by rw [doorsL, List.map_cons, List.sum_cons, doors_sizes p (k + 1) r, Maze.sizes]
theorem doors_all (p : List Int) : ∀ (k : Int) (bs : List Maze), ∀ q ∈ doorsL p k bs, q.1.length = p.length + 1 ∧ q.2 ∈ bs
  | k, [], q, h => by rw [doorsL] at h; cases h
  | k, m :: r, q, h => by
    rw [doorsL] at h
    rcases List.mem_cons.mp h with rfl | h
    · simp
    · obtain ⟨a, b⟩ := doors_all p (k + 1) r q h
      exact ⟨a, List.mem_cons_of_mem _ b⟩
structure Under (m : Maze) (k : Nat) (st fd : List (List Int × Maze)) : Prop where
  all : ∀ q ∈ st, q.2.Wf ∧ q.1.length + q.2.size ≤ m.size
  out : fd ++ st.reverse.flatMap (fun q => rooms q.1 q.2) = rooms [] m
  cnt : (st.map fun q => q.2.size).sum = k
theorem st_len : ∀ st : List (List Int × Maze), st.length ≤ (st.map fun q => q.2.size).sum
  | [] => by simp
  | q :: st => by
    have h1 := st_len st
    have h2 := q.2.size_pos
    rw [List.length_cons, List.map_cons, List.sum_cons]
    omega
theorem Under.st_le {m : Maze} {k : Nat} {st fd : List (List Int × Maze)} (h : Under m k st fd) : st.length + fd.length ≤ m.size := by
  have e := congrArg List.length h.out
  rw [List.length_append, Maze.rooms_len, List.length_flatMap] at e
  have h1 := st_len st.reverse
  simp only [Maze.rooms_len] at e
  rw [List.length_reverse] at h1
  omega
theorem Under.start {m : Maze} (w : m.Wf) : Under m m.size [([], m)] [] := ⟨fun q hq => by
  rw [List.mem_singleton.mp hq]
  exact ⟨w, by simp⟩, by simp, by simp⟩
theorem Under.step {m : Maze} {k : Nat} {st fd : List (List Int × Maze)} {p : List Int} {s : Str} {bs : List Maze} (h : Under m k (st ++ [(p, .mk s bs)]) fd) : ∃ j, j < k ∧ Under m j (st ++ (doorsL p 1 bs).reverse) (fd ++ [(p, .mk s bs)]) := by
  have hk := h.cnt
  obtain ⟨w, l⟩ := h.all (p, .mk s bs) (by simp)
  simp only [List.map_append, List.map_cons, List.map_nil, List.sum_append, List.sum_cons, List.sum_nil] at hk
  rw [Maze.size] at hk l
  have wb := w
  rw [Maze.Wf] at wb
  refine ⟨(st.map fun q => q.2.size).sum + Maze.sizes bs, by omega, ⟨fun q hq => ?_, ?_, ?_⟩⟩
  · rcases List.mem_append.mp hq with hq | hq
    · exact h.all q (List.mem_append_left _ hq)
    · obtain ⟨a, b⟩ := doors_all p 1 bs q (List.mem_reverse.mp hq)
      have := Maze.size_mem b
      simp only at l
      exact ⟨Maze.wfs_all.mp wb.2.2 _ b, by omega⟩
  · rw [← h.out]
    simp only [List.reverse_append, List.reverse_reverse, List.reverse_cons, List.reverse_nil, List.nil_append, List.flatMap_append, List.flatMap_cons, List.flatMap_nil, List.cons_append, List.append_nil, Maze.rooms, Maze.rooms_doors, List.append_assoc]
  · simp only [List.map_append, List.sum_append, List.map_reverse, List.sum_reverse]
    rw [doors_sizes]
theorem rooms_ok {m : Maze} {S : Store} (w : m.Wf) (h : m.size ≤ 1000) : F_room_paths [.d m.d] S = .ok (.d (.list ((rooms [] m).map pr))) S := by
  have sz : sizeLine = 16777216 := sizeLine_eq
  refine sat_eq ?_
  unfold F_room_paths
  walk_at "start"
  simp only [m_room_paths, m_room_paths_1]
  walk_at "go"
  refine ⟨by omega, by omega, by omega, by omega, ?_⟩
  simp only [m_room_paths_2, sWhile]
  refine ssat_while (fun k fr S' => S' = S ∧ ∃ st fd x3 x4, Under m k st fd ∧ fr = [some (.d m.d), some (.d (.list (st.map pr))), some (.d (.list (fd.map pr))), x3, x4]) (fun k fr S' ⟨e, st, fd, x3, x4, u, e2⟩ => ?_) m.size fuel (by unfold fuel; omega) ⟨rfl, [([], m)], [], none, none, Under.start w, rfl⟩
  subst e e2
  have hst := u.st_le
  have lay : PyData.canLayAll0 (st.map pr) = true := lay_all fun d hd => by
    obtain ⟨q, hq, rfl⟩ := List.mem_map.mp hd
    have l1 := Maze.lay (u.all q hq).1
    have l2 : PyData.canLayAll0 (q.1.map .int) = true := lay_all fun d hd => by
      obtain ⟨i, _, rfl⟩ := List.mem_map.mp hd
      rfl
    simp [pr, PyData.canLay0, PyData.canLayAll0, l1, l2]
  walk_at "go"
  rw [eq_nilL lay]
  walk_at "go"
  rcases List.eq_nil_or_concat st with rfl | ⟨st', ⟨p, s, bs⟩, rfl⟩
  · have out := u.out
    simp only [List.reverse_nil, List.flatMap_nil, List.append_nil] at out
    rw [if_neg (by simp)]
    simp only [m_room_paths_6]
    walk_at "go"
    rw [out]
    trivial
  · rw [List.concat_eq_append] at *
    rw [if_pos (by simp)]
    simp only [m_room_paths_3]
    walk_at "go"
    rw [List.map_append, List.map_cons, List.map_nil, fpop_ok rfl]
    simp only [pr]
    walk_at "go"
    refine ⟨Nat.zero_le _, ?_⟩
    simp only [m_room_paths_4]
    walk_at "go"
    refine ⟨by omega, by rw [List.length_map]; omega, ?_⟩
    simp only [m_room_paths_5, Maze.d, Maze.ds_map]
    walk_at "go"
    obtain ⟨wq, lq⟩ := u.all (p, .mk s bs) (by simp)
    rw [behind_ok wq.two (by simp only at lq; omega)]
    walk_at "go"
    obtain ⟨j, hj, u'⟩ := u.step
    have hst' := u'.st_le
    simp only [List.length_append, List.length_reverse] at hst' hst
    have ef : fd.map pr ++ [.tuple [.tuple (p.map .int), .tuple [.str s, .tuple (bs.map Maze.d)]]] = (fd ++ [(p, Maze.mk s bs)]).map pr := by simp [pr, Maze.d, Maze.ds_map]
    rw [ef, ← List.map_append]
    simp only [List.length_cons, List.length_nil] at hst hst'
    exact ⟨by simp only [List.length_map, List.length_reverse]; omega, j, hj, _, _, _, _, u', rfl⟩
end Wk
namespace Wk
open PySem PySem.Spec PyProof.Rows L2 PD
def m_rule_for_3 : SM := sRet (eV 4)
def m_rule_for_2 : SM := sIf (bAnd (bB (e2 (inV false) (e2 ixV (eV 5) (eC (.int 0))) (eA mkTup (aC (eC .none) (aC (eV 2) (aN)))))) (bB (e2 (inV false) (e2 ixV (eV 5) (eC (.int 1))) (eA mkTup (aC (eC .none) (aC (eV 3) (aN))))))) (m_rule_for_3) (sNx)
def m_rule_for_1 : SM := sFor (ggTup 2 (ggCons (gSet 4) (ggCons (gSet 5) (ggNil)))) (iA enumV (aC (e2 ixV (eV 0) (eV 1)) (aN)))
    (m_rule_for_2)
def m_rule_for_4 : SM := sRet (eC .none)
def m_rule_for : SM := sSeq m_rule_for_1 m_rule_for_4
theorem m_rule_for_3_E {fr : Fr} {S : Store} : m_rule_for_3 fr S = (sRet (eV 4)) fr S := rfl
theorem m_rule_for_2_E {fr : Fr} {S : Store} : m_rule_for_2 fr S = (sIf (bAnd (bB (e2 (inV false) (e2 ixV (eV 5) (eC (.int 0))) (eA mkTup (aC (eC .none) (aC (eV 2) (aN)))))) (bB (e2 (inV false) (e2 ixV (eV 5) (eC (.int 1))) (eA mkTup (aC (eC .none) (aC (eV 3) (aN))))))) (m_rule_for_3) (sNx)) fr S := rfl
theorem m_rule_for_1_E {fr : Fr} {S : Store} : m_rule_for_1 fr S = (sFor (ggTup 2 (ggCons (gSet 4) (ggCons (gSet 5) (ggNil)))) (iA enumV (aC (e2 ixV (eV 0) (eV 1)) (aN)))
    (m_rule_for_2)) fr S := rfl
theorem m_rule_for_4_E {fr : Fr} {S : Store} : m_rule_for_4 fr S = (sRet (eC .none)) fr S := rfl
theorem m_rule_for_E {fr : Fr} {S : Store} : m_rule_for fr S = (sSeq m_rule_for_1 m_rule_for_4) fr S := rfl
def F_rule_for : FN := bodyF 6 m_rule_for
def m_deed_by_1 : SM := sRet (eIf (bB (e2 (isV false) (eV 2) (eC .none))) (eA mkTup (aC (eC (.str "stop")) (aC (eC (.str "lost")) (aN)))) (e2 ixV (e2 ixV (e2 ixV (eV 0) (eV 1)) (eV 2)) (eC (.int 2))))
def m_deed_by : SM := m_deed_by_1
theorem m_deed_by_1_E {fr : Fr} {S : Store} : m_deed_by_1 fr S = (sRet (eIf (bB (e2 (isV false) (eV 2) (eC .none))) (eA mkTup (aC (eC (.str "stop")) (aC (eC (.str "lost")) (aN)))) (e2 ixV (e2 ixV (e2 ixV (eV 0) (eV 1)) (eV 2)) (eC (.int 2))))) fr S := rfl
theorem m_deed_by_E {fr : Fr} {S : Store} : m_deed_by fr S = (m_deed_by_1) fr S := rfl
def F_deed_by : FN := bodyF 3 m_deed_by
def m_legs_of_1 : SM := sPar [4, 5, 6, 7] 12 (aC (e2 addV (eC (.int 1)) (eA1 lenV (eV 2))) (aC (eC (.int 0)) (aC (eA mkLst (aN)) (aC (eC (.dict [])) (aN)))))
def m_legs_of_3 : SM := sPutD 7 (eA1 lenV (eP 6)) (eA mkTup (aC (eV 5) (aC (eV 3) (aN))))
def m_legs_of_4 : SM := sAsg (gSet 8) (fE (eCall 4 F_rule_for (aC (eV 0) (aC (eV 3) (aC (eV 1) (aC (eV 4) (aN)))))))
def m_legs_of_5 : SM := sAsg (gSet 9) (fE (eCall 3 F_deed_by (aC (eV 0) (aC (eV 3) (aC (eV 8) (aN))))))
def m_legs_of_7 : SM := sRet (eA mkTup (aC (e2 addV (eP 6) (eA mkLst (aC (eA mkTup (aC (eV 5) (aC (eV 3) (aC (eV 8) (aC (eC .none) (aC (eC .none) (aN))))))) (aN)))) (aC (eV 9) (aC (eC .none) (aN)))))
def m_legs_of_6 : SM := sIf (bB (e2 (eqV false) (e2 ixV (eV 9) (eC (.int 0))) (eC (.str "stop")))) (m_legs_of_7) (sNx)
def m_legs_of_8 : SM := sAsg (gSet 10) (fE (e2 modV (e2 addV (eV 5) (e2 ixV (eV 9) (eC (.int 1)))) (eV 4)))
def m_legs_of_10 : SM := sRet (eA mkTup (aC (e2 addV (eP 6) (eA mkLst (aC (eA mkTup (aC (eV 5) (aC (eV 3) (aC (eV 8) (aC (eC .none) (aC (e2 ixV (eV 9) (eC (.int 2))) (aN))))))) (aN)))) (aC (eA mkTup (aC (eC (.str "out")) (aC (e2 ixV (eV 9) (eC (.int 2))) (aN)))) (aC (eC .none) (aN)))))
def m_legs_of_9 : SM := sIf (bB (e2 (eqV false) (eV 10) (eC (.int 0)))) (m_legs_of_10) (sNx)
def m_legs_of_11 : SM := sApp 6 (eA mkTup (aC (eV 5) (aC (eV 3) (aC (eV 8) (aC (e2 subV (eV 10) (eC (.int 1))) (aC (e2 ixV (eV 9) (eC (.int 2))) (aN)))))))
def m_legs_of_12 : SM := sAsg (gSet 11) (fE (e2 ixV (e2 ixV (eV 2) (e2 subV (eV 10) (eC (.int 1)))) (e2 ixV (eV 9) (eC (.int 2)))))
def m_legs_of_14 : SM := sRet (eA mkTup (aC (eV 6) (aC (eV 11) (aC (eC .none) (aN)))))
def m_legs_of_13 : SM := sIf (bB (e2 (eqV true) (e2 ixV (eV 11) (eC (.int 0))) (eC (.str "out")))) (m_legs_of_14) (sNx)
def m_legs_of_15 : SM := sPar [5, 3] 12 (aC (eV 10) (aC (e2 ixV (eV 11) (eC (.int 1))) (aN)))
def m_legs_of_2 : SM := sWhile (bB (e2 (inDV true) (eA mkTup (aC (eV 5) (aC (eV 3) (aN)))) (eD 7))) (sSeq m_legs_of_3 (sSeq m_legs_of_4 (sSeq m_legs_of_5 (sSeq m_legs_of_6 (sSeq m_legs_of_8 (sSeq m_legs_of_9 (sSeq m_legs_of_11 (sSeq m_legs_of_12 (sSeq m_legs_of_13 m_legs_of_15)))))))))
def m_legs_of_16 : SM := sRet (eA mkTup (aC (eV 6) (aC (eA mkTup (aC (eC (.str "ever")) (aN))) (aC (e2 ixDV (eD 7) (eA mkTup (aC (eV 5) (aC (eV 3) (aN))))) (aN)))))
def m_legs_of : SM := sSeq m_legs_of_1 (sSeq m_legs_of_2 m_legs_of_16)
theorem m_legs_of_1_E {fr : Fr} {S : Store} : m_legs_of_1 fr S = (sPar [4, 5, 6, 7] 12 (aC (e2 addV (eC (.int 1)) (eA1 lenV (eV 2))) (aC (eC (.int 0)) (aC (eA mkLst (aN)) (aC (eC (.dict [])) (aN)))))) fr S := rfl
theorem m_legs_of_3_E {fr : Fr} {S : Store} : m_legs_of_3 fr S = (sPutD 7 (eA1 lenV (eP 6)) (eA mkTup (aC (eV 5) (aC (eV 3) (aN))))) fr S := rfl
theorem m_legs_of_4_E {fr : Fr} {S : Store} : m_legs_of_4 fr S = (sAsg (gSet 8) (fE (eCall 4 F_rule_for (aC (eV 0) (aC (eV 3) (aC (eV 1) (aC (eV 4) (aN)))))))) fr S := rfl
theorem m_legs_of_5_E {fr : Fr} {S : Store} : m_legs_of_5 fr S = (sAsg (gSet 9) (fE (eCall 3 F_deed_by (aC (eV 0) (aC (eV 3) (aC (eV 8) (aN))))))) fr S := rfl
theorem m_legs_of_7_E {fr : Fr} {S : Store} : m_legs_of_7 fr S = (sRet (eA mkTup (aC (e2 addV (eP 6) (eA mkLst (aC (eA mkTup (aC (eV 5) (aC (eV 3) (aC (eV 8) (aC (eC .none) (aC (eC .none) (aN))))))) (aN)))) (aC (eV 9) (aC (eC .none) (aN)))))) fr S := rfl
theorem m_legs_of_6_E {fr : Fr} {S : Store} : m_legs_of_6 fr S = (sIf (bB (e2 (eqV false) (e2 ixV (eV 9) (eC (.int 0))) (eC (.str "stop")))) (m_legs_of_7) (sNx)) fr S := rfl
theorem m_legs_of_8_E {fr : Fr} {S : Store} : m_legs_of_8 fr S = (sAsg (gSet 10) (fE (e2 modV (e2 addV (eV 5) (e2 ixV (eV 9) (eC (.int 1)))) (eV 4)))) fr S := rfl
theorem m_legs_of_10_E {fr : Fr} {S : Store} : m_legs_of_10 fr S = (sRet (eA mkTup (aC (e2 addV (eP 6) (eA mkLst (aC (eA mkTup (aC (eV 5) (aC (eV 3) (aC (eV 8) (aC (eC .none) (aC (e2 ixV (eV 9) (eC (.int 2))) (aN))))))) (aN)))) (aC (eA mkTup (aC (eC (.str "out")) (aC (e2 ixV (eV 9) (eC (.int 2))) (aN)))) (aC (eC .none) (aN)))))) fr S := rfl
theorem m_legs_of_9_E {fr : Fr} {S : Store} : m_legs_of_9 fr S = (sIf (bB (e2 (eqV false) (eV 10) (eC (.int 0)))) (m_legs_of_10) (sNx)) fr S := rfl
theorem m_legs_of_11_E {fr : Fr} {S : Store} : m_legs_of_11 fr S = (sApp 6 (eA mkTup (aC (eV 5) (aC (eV 3) (aC (eV 8) (aC (e2 subV (eV 10) (eC (.int 1))) (aC (e2 ixV (eV 9) (eC (.int 2))) (aN)))))))) fr S := rfl
theorem m_legs_of_12_E {fr : Fr} {S : Store} : m_legs_of_12 fr S = (sAsg (gSet 11) (fE (e2 ixV (e2 ixV (eV 2) (e2 subV (eV 10) (eC (.int 1)))) (e2 ixV (eV 9) (eC (.int 2)))))) fr S := rfl
theorem m_legs_of_14_E {fr : Fr} {S : Store} : m_legs_of_14 fr S = (sRet (eA mkTup (aC (eV 6) (aC (eV 11) (aC (eC .none) (aN)))))) fr S := rfl
theorem m_legs_of_13_E {fr : Fr} {S : Store} : m_legs_of_13 fr S = (sIf (bB (e2 (eqV true) (e2 ixV (eV 11) (eC (.int 0))) (eC (.str "out")))) (m_legs_of_14) (sNx)) fr S := rfl
theorem m_legs_of_15_E {fr : Fr} {S : Store} : m_legs_of_15 fr S = (sPar [5, 3] 12 (aC (eV 10) (aC (e2 ixV (eV 11) (eC (.int 1))) (aN)))) fr S := rfl
theorem m_legs_of_2_E {fr : Fr} {S : Store} : m_legs_of_2 fr S = (sWhile (bB (e2 (inDV true) (eA mkTup (aC (eV 5) (aC (eV 3) (aN)))) (eD 7))) (sSeq m_legs_of_3 (sSeq m_legs_of_4 (sSeq m_legs_of_5 (sSeq m_legs_of_6 (sSeq m_legs_of_8 (sSeq m_legs_of_9 (sSeq m_legs_of_11 (sSeq m_legs_of_12 (sSeq m_legs_of_13 m_legs_of_15)))))))))) fr S := rfl
theorem m_legs_of_16_E {fr : Fr} {S : Store} : m_legs_of_16 fr S = (sRet (eA mkTup (aC (eV 6) (aC (eA mkTup (aC (eC (.str "ever")) (aN))) (aC (e2 ixDV (eD 7) (eA mkTup (aC (eV 5) (aC (eV 3) (aN))))) (aN)))))) fr S := rfl
theorem m_legs_of_E {fr : Fr} {S : Store} : m_legs_of fr S = (sSeq m_legs_of_1 (sSeq m_legs_of_2 m_legs_of_16)) fr S := rfl
def F_legs_of : FN := bodyF 12 m_legs_of
def m_room_results_1 : SM := sRet (eA1 tupleV (eLc (iA rng1V (aC (eA1 lenV (eV 0)) (aN))) (gSet 3) (bYes) (e2 ixV (eCall 4 F_legs_of (aC (eV 0) (aC (eV 1) (aC (eV 2) (aC (eV 3) (aN)))))) (eC (.int 1))) [3]))
def m_room_results : SM := m_room_results_1
theorem m_room_results_1_E {fr : Fr} {S : Store} : m_room_results_1 fr S = (sRet (eA1 tupleV (eLc (iA rng1V (aC (eA1 lenV (eV 0)) (aN))) (gSet 3) (bYes) (e2 ixV (eCall 4 F_legs_of (aC (eV 0) (aC (eV 1) (aC (eV 2) (aC (eV 3) (aN)))))) (eC (.int 1))) [3]))) fr S := rfl
theorem m_room_results_E {fr : Fr} {S : Store} : m_room_results fr S = (m_room_results_1) fr S := rfl
local macro_rules
  | `(tactic| walk_at "go") => `(tactic| simp only [sSeq, ssat_next, ssat_toS, ssat_nx, ssat_rt, ssat_bk, ssat_ct, ssat_bad, ssat_ite, if_false_right, sat_ok, sat_bad, sat_exc, sat_bind, sat_ite, sPutO, sPutI, sPutD, eD, ownD, sAsg, fE, sIf, sNx, sRet, sDrop, sOwn, sApp, sExt, sPar, sFor, e1, e2, eV, eC, eA, eA1, aC, aN, eSl, oN, oS, eP, eM1, eIf, eCall, eChain, eJ, jC, jN, bB, bTr, bAnd, bOr, bNot, eAnd, eOr, eNot, bYes, iSeq, iA, ofG, ofO, fmtV, strV, tupleV, listV, iaddV, PD.eq_int, PD.eq_str, eq_self, gSet, ggNil, ggCons, ggTup, mkTup, mkLst, mkObj, asDs, asD, ownL,
      List.map_cons, List.map_nil, List.cons_append, List.nil_append, List.length_cons, List.length_nil, List.length_set, List.replicate, List.getElem?_cons_succ, List.getElem?_cons_zero, List.getElem?_nil, List.set_cons_succ, List.set_cons_zero, List.all_cons, List.all_nil, setAll, Option.map_some, Option.map_none, Option.bind_some, Option.bind_none,
      ixV, addV, subV, mulV, modV, divV, powV, negV, lenV, intV, absI, enumV, iterV, PD.slV, boolV, truthV, ltD, revA, ltV, gtV, leV, geV, isV, isNone, L2.atI, ixN, Bool.false_xor, Bool.true_xor, Bool.not_true, Bool.not_false, Bool.and_true, Bool.true_and, Bool.and_false, Bool.false_and, decide_true, decide_false, decide_eq_true_eq, Bool.and_eq_true, if_true, if_false, reduceIte, Bool.false_eq_true, Str.empty_append, List.length_append, ite_true, ite_false, true_and, and_true, Int.cast_ofNat_Int, Nat.reduceAdd, Nat.reduceSub, Nat.reduceLT, Int.reduceLT, Int.reduceLE, Int.reduceToNat, Nat.lt_add_one])
local macro_rules
  | `(tactic| walk_at "g0") => `(tactic| simp only [sSeq, ssat_next, ssat_toS, ssat_nx, ssat_rt, ssat_bk, ssat_ct, ssat_bad, ssat_ite, if_false_right, sat_ok, sat_bad, sat_exc, sat_bind, sat_ite, sPutO, sPutI, sPutD, eD, ownD, sAsg, fE, sIf, sNx, sRet, sDrop, sOwn, sApp, sExt, sPar, sFor, e1, e2, eV, eC, eA, eA1, aC, aN, eSl, oN, oS, eP, eM1, eIf, eCall, eChain, eJ, jC, jN, bB, bTr, bAnd, bOr, bNot, eAnd, eOr, eNot, bYes, iSeq, iA, ofG, ofO, fmtV, strV, tupleV, listV, iaddV, PD.eq_int, PD.eq_str, eq_self, gSet, ggNil, ggCons, ggTup, mkTup, mkLst, mkObj, asDs, asD, ownL,
      List.map_cons, List.map_nil, List.cons_append, List.nil_append, List.length_cons, List.length_nil, List.length_set, List.replicate, List.getElem?_cons_succ, List.getElem?_cons_zero, List.getElem?_nil, List.set_cons_succ, List.set_cons_zero, List.all_cons, List.all_nil, setAll, ixT0, ixT1, ixT2, ixL0, ixL1, ixL2, Option.map_some, Option.map_none, Option.bind_some, Option.bind_none,
      addV, subV, mulV, modV, divV, powV, negV, lenV, intV, absI, enumV, iterV, PD.slV, boolV, truthV, ltD, revA, ltV, gtV, leV, geV, isV, isNone, Bool.false_xor, Bool.true_xor, Bool.not_true, Bool.not_false, Bool.and_true, Bool.true_and, Bool.and_false, Bool.false_and, decide_true, decide_false, decide_eq_true_eq, Bool.and_eq_true, if_true, if_false, reduceIte, Bool.false_eq_true, Str.empty_append, List.length_append, ite_true, ite_false, true_and, and_true, Int.cast_ofNat_Int, Nat.reduceAdd, Nat.reduceSub, Nat.reduceLT, Int.reduceLT, Int.reduceLE, Int.reduceToNat, Nat.lt_add_one])
local macro_rules
  | `(tactic| walk_at "g1") => `(tactic| simp only [sSeq, ssat_next, ssat_toS, ssat_nx, ssat_rt, ssat_bk, ssat_ct, ssat_bad, ssat_ite, if_false_right, sat_ok, sat_bad, sat_exc, sat_bind, sat_ite, sPutO, sPutI, sPutD, eD, ownD, sAsg, fE, sIf, sNx, sRet, sDrop, sOwn, sApp, sExt, sPar, sFor, e1, e2, eV, eC, eA, eA1, aC, aN, eSl, oN, oS, eP, eM1, eIf, eCall, eChain, eJ, jC, jN, bB, bTr, bAnd, bOr, bNot, eAnd, eOr, eNot, bYes, iSeq, iA, ofG, ofO, fmtV, strV, tupleV, listV, iaddV, PD.eq_int, PD.eq_str, eq_self, gSet, ggNil, ggCons, ggTup, mkTup, mkLst, mkObj, asDs, asD, ownL,
      List.map_cons, List.map_nil, List.cons_append, List.nil_append, List.length_cons, List.length_nil, List.length_set, List.replicate, List.getElem?_cons_succ, List.getElem?_cons_zero, List.getElem?_nil, List.set_cons_succ, List.set_cons_zero, List.all_cons, List.all_nil, setAll, ixT0, ixT1, ixT2, ixL0, ixL1, ixL2, Option.map_some, Option.map_none, Option.bind_some, Option.bind_none,
      addV, subV, mulV, modV, divV, powV, negV, lenV, intV, absI, enumV, iterV, PD.slV, boolV, truthV, ltD, revA, ltV, gtV, leV, geV, isV, isNone, Bool.false_xor, Bool.true_xor, Bool.not_true, Bool.not_false, Bool.and_true, Bool.true_and, Bool.and_false, Bool.false_and, decide_true, decide_false, decide_eq_true_eq, Bool.and_eq_true, if_true, if_false, reduceIte, Bool.false_eq_true, Str.empty_append, List.length_append, ite_true, ite_false, true_and, and_true, Int.cast_ofNat_Int, Nat.reduceAdd, Nat.reduceSub, Nat.reduceLT, Int.reduceLT, Int.reduceSub, Int.reduceAdd, Int.reduceNeg, Int.reduceLE, Int.reduceToNat, Nat.lt_add_one])
local macro_rules
  | `(tactic| walk_at "g") => `(tactic| simp only [sSeq, ssat_next, ssat_toS, ssat_nx, ssat_rt, ssat_bk, ssat_ct, ssat_bad, ssat_ite, if_false_right, sat_ok, sat_bad, sat_exc, sat_bind, sat_ite, sPutO, sPutI, sPutD, eD, ownD, sAsg, fE, sIf, sNx, sRet, sDrop, sOwn, sApp, sExt, sPar, sFor, e1, e2, eV, eC, eA, eA1, aC, aN, eSl, oN, oS, eP, eM1, eIf, eCall, eChain, eJ, jC, jN, bB, bTr, bAnd, bOr, bNot, eAnd, eOr, eNot, bYes, iSeq, iA, ofG, ofO, fmtV, strV, tupleV, listV, iaddV, PD.eq_int, PD.eq_str, eq_self, gSet, ggNil, ggCons, ggTup, mkTup, mkLst, mkObj, asDs, asD, ownL,
      List.map_cons, List.map_nil, List.cons_append, List.nil_append, List.length_cons, List.length_nil, List.length_set, List.replicate, List.getElem?_cons_succ, List.getElem?_cons_zero, List.getElem?_nil, List.set_cons_succ, List.set_cons_zero, List.all_cons, List.all_nil, setAll, ixT0, ixT1, ixT2, ixL0, ixL1, ixL2, Option.map_some, Option.map_none, Option.bind_some, Option.bind_none,
      addV, subV, mulV, modV, divV, powV, negV, lenV, intV, absI, enumV, iterV, PD.slV, boolV, truthV, ltD, revA, ltV, gtV, leV, geV, isV, isNone, Bool.false_xor, Bool.true_xor, Bool.not_true, Bool.not_false, Bool.and_true, Bool.true_and, Bool.and_false, Bool.false_and, decide_true, decide_false, decide_eq_true_eq, Bool.and_eq_true, if_true, if_false, reduceIte, Bool.false_eq_true, Str.empty_append, List.length_append, ite_true, ite_false, true_and, and_true, Int.cast_ofNat_Int, Nat.reduceAdd, Nat.reduceSub, Nat.reduceLT, Int.reduceLT, Int.reduceSub, Int.reduceAdd, Int.reduceNeg, Int.reduceLE, Int.reduceToNat, Nat.lt_add_one, beq_iff_eq, sizeLine_eq, Nat.reduceLeDiff, inV_tup, inV_lst, eqv_str, eqv_int, eqV_nilT, cutD_tail, false_and, and_false, or_true, true_or, or_false, false_or, ixT3, Bool.true_eq_false, Bool.or_eq_false_iff, decide_eq_false_iff_not, Int.not_le, Int.not_lt, beq_self_eq_true, Int.reduceBEq, Bool.not_eq_eq_eq_not, beq_eq_false_iff_ne, ne_eq, not_true_eq_false, not_false_eq_true, List.isEmpty_cons, List.isEmpty_nil, List.any_cons, List.any_nil, Bool.or_false, Bool.or_eq_true, isaV, PyData.isInt, PyData.isStr, PyData.isBool, PyData.isTuple, PyData.isList, PyData.isDict, m_rule_for_3_E, m_rule_for_2_E, m_rule_for_1_E, m_rule_for_4_E, m_rule_for_E, m_deed_by_1_E, m_deed_by_E, m_legs_of_1_E, m_legs_of_3_E, m_legs_of_4_E, m_legs_of_5_E, m_legs_of_7_E, m_legs_of_6_E, m_legs_of_8_E, m_legs_of_10_E, m_legs_of_9_E, m_legs_of_11_E, m_legs_of_12_E, m_legs_of_14_E, m_legs_of_13_E, m_legs_of_15_E, m_legs_of_2_E, m_legs_of_16_E, m_legs_of_E, m_room_results_1_E, m_room_results_E])
local macro_rules
  | `(tactic| walk_at "gt") => `(tactic| try walk_at "go")
local macro_rules
  | `(tactic| walk_at "gq") => `(tactic| try walk_at "g0")
local macro_rules
  | `(tactic| walk_at "len") => `(tactic| (simp only [Str.length_append, PySem.ofString_length, len_nil, sizeLine_eq] at *; omega))
local macro_rules
  | `(tactic| walk_at "fin") => `(tactic| ((repeat' apply And.intro) <;> first | assumption | exact True.intro | walk_at "len" | rfl))
local macro_rules
  | `(tactic| walk_at "start") => `(tactic| (rw [sat_body]; simp only [List.map_cons, List.map_nil, List.cons_append, List.nil_append, List.length_cons, List.length_nil, Nat.reduceAdd, Nat.reduceSub, List.replicate]))
local macro_rules
  | `(tactic| walk_at "wd") => `(tactic| first | assumption | exact Wd.none | exact Wd.bool | exact Wd.small (by decide) (by decide) | exact Wd.lit (by decide) | exact Wd.dict0 | exact Wd.tup Wds.nil | exact Wd.lst Wds.nil | (refine Wd.t1 (k := 2) (a := 990) ?_ (by decide) <;> walk_at "wd") | (refine Wd.t2 (k := 2) (a := 990) (b := 990) ?_ ?_ (by decide) <;> walk_at "wd") | (refine Wd.t3 (k := 2) (a := 990) (b := 990) (c := 990) ?_ ?_ ?_ (by decide) <;> walk_at "wd") | (refine Wd.t4 (k := 2) (a := 990) (b := 990) (c := 990) (e := 990) ?_ ?_ ?_ ?_ (by decide) <;> walk_at "wd") | (refine Wd.t1 (k := 1) (a := 240) ?_ (by decide) <;> walk_at "wd") | (refine Wd.t2 (k := 1) (a := 240) (b := 240) ?_ ?_ (by decide) <;> walk_at "wd") | (refine Wd.t3 (k := 1) (a := 240) (b := 240) (c := 240) ?_ ?_ ?_ (by decide) <;> walk_at "wd") | (refine Wd.t4 (k := 1) (a := 240) (b := 240) (c := 240) (e := 240) ?_ ?_ ?_ ?_ (by decide) <;> walk_at "wd") | (refine Wd.t1 (k := 0) (a := 55) ?_ (by decide) <;> walk_at "wd") | (refine Wd.t2 (k := 0) (a := 55) (b := 55) ?_ ?_ (by decide) <;> walk_at "wd") | (refine Wd.t3 (k := 0) (a := 55) (b := 55) (c := 55) ?_ ?_ ?_ (by decide) <;> walk_at "wd") | (refine Wd.t4 (k := 0) (a := 55) (b := 55) (c := 55) (e := 55) ?_ ?_ ?_ ?_ (by decide) <;> walk_at "wd"))
theorem in_sign {a : Option Str} {s : Str} {S : Store} (h : ∀ t, a = some t → Tx 20 t) (k : Tx 20 s) : inV false (.d (optS a)) (.d (.tuple [.none, .str s])) S = .ok (.d (.bool (fitS a s))) S := by
  have e : inOk (optS a) [.none, .str s] = true := by
    have e1 : (optS a).canLay0 = true ∧ (optS a).depth = 0 := by
      cases a with
      | none => exact ⟨rfl, rfl⟩
      | some t => exact ⟨(h t rfl).strOk, rfl⟩
    simp only [inOk, PyData.canLayAll0, k.strOk, e1.1, e1.2, show PyData.canLay0 .none = true from rfl, Bool.and_self, Bool.true_and, decide_eq_true_eq]
    omega
  have e2 : inV false (.d (optS a)) (.d (.tuple [.none, .str s])) S = if inOk (optS a) [.none, .str s] = true then Rs.ok (SV.d (.bool (false ^^ [PyData.none, .str s].any fun y => PyData.eqv y (optS a)))) S else .bad := by
    cases a <;> rfl
  rw [e2, if_pos e]
  cases a with
  | none => rfl
  | some t =>
    have : ([PyData.none, .str s].any fun y => PyData.eqv y (.str t)) = decide (t = s) := by
      simp only [List.any_cons, List.any_nil, PyData.eqv, Bool.false_or, Bool.or_false]
      by_cases q : t = s
      · simp [q]
      · simp [q, Ne.symm q]
    show Rs.ok (SV.d (.bool (false ^^ [PyData.none, .str s].any fun y => PyData.eqv y (.str t)))) S = _
    rw [this, Bool.false_xor]
    rfl
theorem in_doors {b : Option Int} {q : Int} {S : Store} : inV false (.d (optI b)) (.d (.tuple [.none, .int q])) S = .ok (.d (.bool (fitD b q))) S := by
  have e : inOk (optI b) [.none, .int q] = true := by cases b <;> rfl
  have e2 : inV false (.d (optI b)) (.d (.tuple [.none, .int q])) S = if inOk (optI b) [.none, .int q] = true then Rs.ok (SV.d (.bool (false ^^ [PyData.none, .int q].any fun y => PyData.eqv y (optI b)))) S else .bad := by
    cases b <;> rfl
  rw [e2, if_pos e]
  cases b with
  | none => rfl
  | some k =>
    have : ([PyData.none, .int q].any fun y => PyData.eqv y (.int k)) = decide (k = q) := by
      simp only [List.any_cons, List.any_nil, PyData.eqv, Bool.false_or, Bool.or_false]
      by_cases z : k = q
      · simp [z]
      · simp [z, Ne.symm z]
    show Rs.ok (SV.d (.bool (false ^^ [PyData.none, .int q].any fun y => PyData.eqv y (.int k)))) S = _
    rw [this, Bool.false_xor]
    rfl
theorem rule_for_eq {R : Rob} {st : Int} {s : Str} {q : Int} {S : Store} (h : RobWf R) (h0 : 0 ≤ st) (h1 : st < R.length) (hs : Tx 20 s) : F_rule_for [.d (robD R), .d (.int st), .d (.str s), .d (.int q)] S = .ok (.d (optN (ruleOf (R.getD st.toNat []) s q))) S := by
  refine sat_eq ?_
  have hm : R.getD st.toNat [] ∈ R := getD_mem (by omega)
  have ix : ∀ S, ixV (.d (robD R)) (.d (.int st)) S = .ok (.d (.tuple ((R.getD st.toNat []).map Rl.d))) S := fun S => ix_mapT (enc := stD) h0 h1
  have hw := (h.st _ hm).2
  generalize R.getD st.toNat [] = rs at ix hw
  unfold F_rule_for
  walk_at "start"
  unfold m_rule_for
  refine seq_sat (fun fr S' => S' = S ∧ ∀ r ∈ rs, r.fits s q = false) ?_ ?_
  · simp only [m_rule_for_1]
    walk_at "g0"
    rw [ix]
    walk_at "g0"
    refine ssat_for (fun j fr S' => S' = S ∧ (∃ x y, fr = [some (.d (robD R)), some (.d (.int st)), some (.d (.str s)), some (.d (.int q)), x, y]) ∧ ∀ i (_ : i < rs.length), i < j → rs[i].fits s q = false) 0 ⟨rfl, ⟨_, _, rfl⟩, by simp⟩ (fun j x fr S' e ⟨e1, ⟨y, z, e2⟩, n⟩ => ?_) fun fr S' ⟨e1, _, n⟩ => ⟨e1, fun r hr => ?_⟩
    · subst e1 e2
      rw [Nat.zero_add] at n ⊢
      obtain ⟨d, hd, rfl⟩ := enumL_get e
      rw [List.getElem?_map] at hd
      obtain ⟨r, hr, rfl⟩ := Option.map_eq_some_iff.mp hd
      obtain ⟨hl, er⟩ := List.getElem?_eq_some_iff.mp hr
      have wr := hw r (List.mem_of_getElem? hr)
      refine ⟨[some (.d (robD R)), some (.d (.int st)), some (.d (.str s)), some (.d (.int q)), some (.d (.int (j : Nat))), some (.d r.d)], rfl, ?_⟩
      simp only [m_rule_for_2, Rl.d]
      walk_at "g0"
      rw [in_sign wr.sg hs]
      walk_at "g0"
      refine ⟨by decide, ?_⟩
      have next : r.fits s q = false → ∀ i (_ : i < rs.length), i < j + 1 → rs[i].fits s q = false := fun f i hi hj => by
        rcases Nat.lt_succ_iff_lt_or_eq.mp hj with l | rfl
        · exact n i hi l
        · rw [er]; exact f
      by_cases f1 : fitS r.sg s = true
      · rw [if_pos f1]
        rw [in_doors]
        walk_at "g0"
        refine ⟨by decide, ?_⟩
        by_cases f2 : fitD r.dr q = true
        · rw [if_pos f2]
          simp only [m_rule_for_3]
          walk_at "g0"
          have : ruleOf rs s q = some j := by
            unfold ruleOf
            refine List.findIdx?_eq_some_iff_getElem.mpr ⟨hl, ?_, fun i hi => ?_⟩
            · rw [er]
              show (_ && _) = true
              rw [f1, f2]
              rfl
            · rw [n i (by omega) hi]; simp
          rw [this]
          rfl
        · rw [if_neg f2]
          refine ⟨⟨_, _, rfl⟩, next ?_⟩
          show (_ && _) = false
          rw [Bool.eq_false_iff.mpr f2, Bool.and_false]
      · rw [if_neg f1]
        refine ⟨⟨_, _, rfl⟩, next ?_⟩
        show (_ && _) = false
        rw [Bool.eq_false_iff.mpr f1, Bool.false_and]
    · obtain ⟨i, hi, rfl⟩ := List.mem_iff_getElem.mp hr
      refine n i hi ?_
      rw [Nat.zero_add, enumL_length, List.length_map]
      exact hi
  rintro _ S ⟨rfl, n⟩
  simp only [m_rule_for_4]
  walk_at "g0"
  have : ruleOf rs s q = none := List.findIdx?_eq_none_iff.mpr n
  rw [this]
  rfl
theorem deed_by_eq {R : Rob} {st : Int} {S : Store} (h : RobWf R) (h0 : 0 ≤ st) (h1 : st < R.length) {o : Option Nat} (ho : ∀ i, o = some i → i < (R.getD st.toNat []).length) : F_deed_by [.d (robD R), .d (.int st), .d (optN o)] S = .ok (.d (deedOf (R.getD st.toNat []) o).d) S := by
  refine sat_eq ?_
  have ix : ∀ S, ixV (.d (robD R)) (.d (.int st)) S = .ok (.d (.tuple ((R.getD st.toNat []).map Rl.d))) S := fun S => ix_mapT (enc := stD) h0 h1
  generalize R.getD st.toNat [] = rs at ix ho
  unfold F_deed_by
  walk_at "start"
  simp only [m_deed_by, m_deed_by_1]
  cases o with
  | none =>
    simp only [optN]
    walk_at "g0"
    simp only [deedOf, Deed.d]
    exact ⟨by decide, trivial⟩
  | some i =>
    simp only [optN]
    walk_at "g0"
    rw [ix]
    walk_at "g0"
    rw [ix_mapT (enc := Rl.d) (by omega) (by have := ho i rfl; omega)]
    walk_at "g0"
    simp only [Rl.d, deedOf]
    walk_at "g0"
    rw [Int.toNat_natCast]
theorem ne_go : (("go" : Str) = "stop") = False := eq_false (by decide +kernel)
end Wk
namespace Wk
open PySem PySem.Spec PyProof.Rows L2 PD
def m_deed_at_1 : SM := sRet (eCall 3 F_deed_by (aC (eV 0) (aC (eV 1) (aC (eCall 4 F_rule_for (aC (eV 0) (aC (eV 1) (aC (eV 2) (aC (eV 3) (aN)))))) (aN)))))
def m_deed_at : SM := m_deed_at_1
theorem m_deed_at_1_E {fr : Fr} {S : Store} : m_deed_at_1 fr S = (sRet (eCall 3 F_deed_by (aC (eV 0) (aC (eV 1) (aC (eCall 4 F_rule_for (aC (eV 0) (aC (eV 1) (aC (eV 2) (aC (eV 3) (aN)))))) (aN)))))) fr S := rfl
theorem m_deed_at_E {fr : Fr} {S : Store} : m_deed_at fr S = (m_deed_at_1) fr S := rfl
def F_deed_at : FN := bodyF 4 m_deed_at
def m_walk_1 : SM := sAsg (gSet 2) (fE (eDc (iSeq (eCall 1 F_room_paths (aC (eV 0) (aN)))) (ggTup 2 (ggCons (gSet 6) (ggCons (gSet 13) (ggNil)))) (bYes) (eV 6) (eA mkTup (aC (e2 ixV (eV 13) (eC (.int 0))) (aC (e2 addV (eC (.int 1)) (eA1 lenV (e2 ixV (eV 13) (eC (.int 1))))) (aN)))) [6, 13]))
def m_walk_2 : SM := sPar [3, 4, 5] 14 (aC (eA mkTup (aC (eA mkTup (aN)) (aC (eC (.int 0)) (aC (eC (.int 0)) (aN))))) (aC (eA mkLst (aN)) (aC (eC (.dict [])) (aN))))
def m_walk_4 : SM := sPutD 5 (eC (.bool true)) (eV 3)
def m_walk_5 : SM := sApp 4 (eV 3)
def m_walk_6 : SM := sAsg (ggTup 3 (ggCons (gSet 6) (ggCons (gSet 7) (ggCons (gSet 8) (ggNil))))) (fE (eV 3))
def m_walk_7 : SM := sAsg (ggTup 2 (ggCons (gSet 9) (ggCons (gSet 10) (ggNil)))) (fE (e2 ixDV (eV 2) (eV 6)))
def m_walk_8 : SM := sAsg (gSet 11) (fE (eCall 4 F_deed_at (aC (eV 1) (aC (eV 8) (aC (eV 9) (aC (eV 10) (aN)))))))
def m_walk_10 : SM := sRet (eA mkTup (aC (e2 ixV (eV 11) (eC (.int 1))) (aC (eA1 tupleV (eP 4)) (aN))))
def m_walk_9 : SM := sIf (bB (e2 (eqV false) (e2 ixV (eV 11) (eC (.int 0))) (eC (.str "stop")))) (m_walk_10) (sNx)
def m_walk_11 : SM := sAsg (gSet 12) (fE (e2 modV (e2 addV (eV 7) (e2 ixV (eV 11) (eC (.int 1)))) (eV 10)))
def m_walk_13 : SM := sAsg (gSet 3) (fE (eA mkTup (aC (e2 addV (eV 6) (eA mkTup (aC (eV 12) (aN)))) (aC (eC (.int 0)) (aC (e2 ixV (eV 11) (eC (.int 2))) (aN))))))
def m_walk_15 : SM := sRet (eA mkTup (aC (eC (.str "out")) (aC (eA1 tupleV (eP 4)) (aN))))
def m_walk_17 : SM := sAsg (gSet 3) (fE (eA mkTup (aC (eSl (eV 6) (oN) (oS (e1 negV (eC (.int 1))))) (aC (e2 ixV (eV 6) (e1 negV (eC (.int 1)))) (aC (e2 ixV (eV 11) (eC (.int 2))) (aN))))))
def m_walk_14 : SM := sIf (bB (e2 (eqV false) (eV 6) (eA mkTup (aN)))) (m_walk_15) (m_walk_17)
def m_walk_12 : SM := sIf (bB (e2 gtV (eV 12) (eC (.int 0)))) (m_walk_13) (m_walk_14)
def m_walk_3 : SM := sWhile (bB (e2 (inDV true) (eV 3) (eD 5))) (sSeq m_walk_4 (sSeq m_walk_5 (sSeq m_walk_6 (sSeq m_walk_7 (sSeq m_walk_8 (sSeq m_walk_9 (sSeq m_walk_11 m_walk_12)))))))
def m_walk_18 : SM := sRet (eA mkTup (aC (eC (.str "ever")) (aC (eA1 tupleV (eP 4)) (aN))))
def m_walk : SM := sSeq m_walk_1 (sSeq m_walk_2 (sSeq m_walk_3 m_walk_18))
theorem m_walk_1_E {fr : Fr} {S : Store} : m_walk_1 fr S = (sAsg (gSet 2) (fE (eDc (iSeq (eCall 1 F_room_paths (aC (eV 0) (aN)))) (ggTup 2 (ggCons (gSet 6) (ggCons (gSet 13) (ggNil)))) (bYes) (eV 6) (eA mkTup (aC (e2 ixV (eV 13) (eC (.int 0))) (aC (e2 addV (eC (.int 1)) (eA1 lenV (e2 ixV (eV 13) (eC (.int 1))))) (aN)))) [6, 13]))) fr S := rfl
theorem m_walk_2_E {fr : Fr} {S : Store} : m_walk_2 fr S = (sPar [3, 4, 5] 14 (aC (eA mkTup (aC (eA mkTup (aN)) (aC (eC (.int 0)) (aC (eC (.int 0)) (aN))))) (aC (eA mkLst (aN)) (aC (eC (.dict [])) (aN))))) fr S := rfl
theorem m_walk_4_E {fr : Fr} {S : Store} : m_walk_4 fr S = (sPutD 5 (eC (.bool true)) (eV 3)) fr S := rfl
theorem m_walk_5_E {fr : Fr} {S : Store} : m_walk_5 fr S = (sApp 4 (eV 3)) fr S := rfl
theorem m_walk_6_E {fr : Fr} {S : Store} : m_walk_6 fr S = (sAsg (ggTup 3 (ggCons (gSet 6) (ggCons (gSet 7) (ggCons (gSet 8) (ggNil))))) (fE (eV 3))) fr S := rfl
theorem m_walk_7_E {fr : Fr} {S : Store} : m_walk_7 fr S = (sAsg (ggTup 2 (ggCons (gSet 9) (ggCons (gSet 10) (ggNil)))) (fE (e2 ixDV (eV 2) (eV 6)))) fr S := rfl
theorem m_walk_8_E {fr : Fr} {S : Store} : m_walk_8 fr S = (sAsg (gSet 11) (fE (eCall 4 F_deed_at (aC (eV 1) (aC (eV 8) (aC (eV 9) (aC (eV 10) (aN)))))))) fr S := rfl
theorem m_walk_10_E {fr : Fr} {S : Store} : m_walk_10 fr S = (sRet (eA mkTup (aC (e2 ixV (eV 11) (eC (.int 1))) (aC (eA1 tupleV (eP 4)) (aN))))) fr S := rfl
theorem m_walk_9_E {fr : Fr} {S : Store} : m_walk_9 fr S = (sIf (bB (e2 (eqV false) (e2 ixV (eV 11) (eC (.int 0))) (eC (.str "stop")))) (m_walk_10) (sNx)) fr S := rfl
theorem m_walk_11_E {fr : Fr} {S : Store} : m_walk_11 fr S = (sAsg (gSet 12) (fE (e2 modV (e2 addV (eV 7) (e2 ixV (eV 11) (eC (.int 1)))) (eV 10)))) fr S := rfl
theorem m_walk_13_E {fr : Fr} {S : Store} : m_walk_13 fr S = (sAsg (gSet 3) (fE (eA mkTup (aC (e2 addV (eV 6) (eA mkTup (aC (eV 12) (aN)))) (aC (eC (.int 0)) (aC (e2 ixV (eV 11) (eC (.int 2))) (aN))))))) fr S := rfl
theorem m_walk_15_E {fr : Fr} {S : Store} : m_walk_15 fr S = (sRet (eA mkTup (aC (eC (.str "out")) (aC (eA1 tupleV (eP 4)) (aN))))) fr S := rfl
theorem m_walk_17_E {fr : Fr} {S : Store} : m_walk_17 fr S = (sAsg (gSet 3) (fE (eA mkTup (aC (eSl (eV 6) (oN) (oS (e1 negV (eC (.int 1))))) (aC (e2 ixV (eV 6) (e1 negV (eC (.int 1)))) (aC (e2 ixV (eV 11) (eC (.int 2))) (aN))))))) fr S := rfl
theorem m_walk_14_E {fr : Fr} {S : Store} : m_walk_14 fr S = (sIf (bB (e2 (eqV false) (eV 6) (eA mkTup (aN)))) (m_walk_15) (m_walk_17)) fr S := rfl
theorem m_walk_12_E {fr : Fr} {S : Store} : m_walk_12 fr S = (sIf (bB (e2 gtV (eV 12) (eC (.int 0)))) (m_walk_13) (m_walk_14)) fr S := rfl
theorem m_walk_3_E {fr : Fr} {S : Store} : m_walk_3 fr S = (sWhile (bB (e2 (inDV true) (eV 3) (eD 5))) (sSeq m_walk_4 (sSeq m_walk_5 (sSeq m_walk_6 (sSeq m_walk_7 (sSeq m_walk_8 (sSeq m_walk_9 (sSeq m_walk_11 m_walk_12)))))))) fr S := rfl
theorem m_walk_18_E {fr : Fr} {S : Store} : m_walk_18 fr S = (sRet (eA mkTup (aC (eC (.str "ever")) (aC (eA1 tupleV (eP 4)) (aN))))) fr S := rfl
theorem m_walk_E {fr : Fr} {S : Store} : m_walk fr S = (sSeq m_walk_1 (sSeq m_walk_2 (sSeq m_walk_3 m_walk_18))) fr S := rfl
def F_walk : FN := bodyF 14 m_walk
def m_verdict_1 : SM := sRet (e2 ixV (eCall 2 F_walk (aC (eV 0) (aC (eV 1) (aN)))) (eC (.int 0)))
def m_verdict : SM := m_verdict_1
theorem m_verdict_1_E {fr : Fr} {S : Store} : m_verdict_1 fr S = (sRet (e2 ixV (eCall 2 F_walk (aC (eV 0) (aC (eV 1) (aN)))) (eC (.int 0)))) fr S := rfl
theorem m_verdict_E {fr : Fr} {S : Store} : m_verdict fr S = (m_verdict_1) fr S := rfl
local macro_rules
  | `(tactic| walk_at "go") => `(tactic| simp only [sSeq, ssat_next, ssat_toS, ssat_nx, ssat_rt, ssat_bk, ssat_ct, ssat_bad, ssat_ite, if_false_right, sat_ok, sat_bad, sat_exc, sat_bind, sat_ite, sPutO, sPutI, sPutD, eD, ownD, sAsg, fE, sIf, sNx, sRet, sDrop, sOwn, sApp, sExt, sPar, sFor, e1, e2, eV, eC, eA, eA1, aC, aN, eSl, oN, oS, eP, eM1, eIf, eCall, eChain, eJ, jC, jN, bB, bTr, bAnd, bOr, bNot, eAnd, eOr, eNot, bYes, iSeq, iA, ofG, ofO, fmtV, strV, tupleV, listV, iaddV, PD.eq_int, PD.eq_str, eq_self, gSet, ggNil, ggCons, ggTup, mkTup, mkLst, mkObj, asDs, asD, ownL,
      List.map_cons, List.map_nil, List.cons_append, List.nil_append, List.length_cons, List.length_nil, List.length_set, List.replicate, List.getElem?_cons_succ, List.getElem?_cons_zero, List.getElem?_nil, List.set_cons_succ, List.set_cons_zero, List.all_cons, List.all_nil, setAll, Option.map_some, Option.map_none, Option.bind_some, Option.bind_none,
      ixV, addV, subV, mulV, modV, divV, powV, negV, lenV, intV, absI, enumV, iterV, PD.slV, boolV, truthV, ltD, revA, ltV, gtV, leV, geV, isV, isNone, L2.atI, ixN, Bool.false_xor, Bool.true_xor, Bool.not_true, Bool.not_false, Bool.and_true, Bool.true_and, Bool.and_false, Bool.false_and, decide_true, decide_false, decide_eq_true_eq, Bool.and_eq_true, if_true, if_false, reduceIte, Bool.false_eq_true, Str.empty_append, List.length_append, ite_true, ite_false, true_and, and_true, Int.cast_ofNat_Int, Nat.reduceAdd, Nat.reduceSub, Nat.reduceLT, Int.reduceLT, Int.reduceLE, Int.reduceToNat, Nat.lt_add_one])
local macro_rules
  | `(tactic| walk_at "g0") => `(tactic| simp only [sSeq, ssat_next, ssat_toS, ssat_nx, ssat_rt, ssat_bk, ssat_ct, ssat_bad, ssat_ite, if_false_right, sat_ok, sat_bad, sat_exc, sat_bind, sat_ite, sPutO, sPutI, sPutD, eD, ownD, sAsg, fE, sIf, sNx, sRet, sDrop, sOwn, sApp, sExt, sPar, sFor, e1, e2, eV, eC, eA, eA1, aC, aN, eSl, oN, oS, eP, eM1, eIf, eCall, eChain, eJ, jC, jN, bB, bTr, bAnd, bOr, bNot, eAnd, eOr, eNot, bYes, iSeq, iA, ofG, ofO, fmtV, strV, tupleV, listV, iaddV, PD.eq_int, PD.eq_str, eq_self, gSet, ggNil, ggCons, ggTup, mkTup, mkLst, mkObj, asDs, asD, ownL,
      List.map_cons, List.map_nil, List.cons_append, List.nil_append, List.length_cons, List.length_nil, List.length_set, List.replicate, List.getElem?_cons_succ, List.getElem?_cons_zero, List.getElem?_nil, List.set_cons_succ, List.set_cons_zero, List.all_cons, List.all_nil, setAll, ixT0, ixT1, ixT2, ixL0, ixL1, ixL2, Option.map_some, Option.map_none, Option.bind_some, Option.bind_none,
      addV, subV, mulV, modV, divV, powV, negV, lenV, intV, absI, enumV, iterV, PD.slV, boolV, truthV, ltD, revA, ltV, gtV, leV, geV, isV, isNone, Bool.false_xor, Bool.true_xor, Bool.not_true, Bool.not_false, Bool.and_true, Bool.true_and, Bool.and_false, Bool.false_and, decide_true, decide_false, decide_eq_true_eq, Bool.and_eq_true, if_true, if_false, reduceIte, Bool.false_eq_true, Str.empty_append, List.length_append, ite_true, ite_false, true_and, and_true, Int.cast_ofNat_Int, Nat.reduceAdd, Nat.reduceSub, Nat.reduceLT, Int.reduceLT, Int.reduceLE, Int.reduceToNat, Nat.lt_add_one])
local macro_rules
  | `(tactic| walk_at "g1") => `(tactic| simp only [sSeq, ssat_next, ssat_toS, ssat_nx, ssat_rt, ssat_bk, ssat_ct, ssat_bad, ssat_ite, if_false_right, sat_ok, sat_bad, sat_exc, sat_bind, sat_ite, sPutO, sPutI, sPutD, eD, ownD, sAsg, fE, sIf, sNx, sRet, sDrop, sOwn, sApp, sExt, sPar, sFor, e1, e2, eV, eC, eA, eA1, aC, aN, eSl, oN, oS, eP, eM1, eIf, eCall, eChain, eJ, jC, jN, bB, bTr, bAnd, bOr, bNot, eAnd, eOr, eNot, bYes, iSeq, iA, ofG, ofO, fmtV, strV, tupleV, listV, iaddV, PD.eq_int, PD.eq_str, eq_self, gSet, ggNil, ggCons, ggTup, mkTup, mkLst, mkObj, asDs, asD, ownL,
      List.map_cons, List.map_nil, List.cons_append, List.nil_append, List.length_cons, List.length_nil, List.length_set, List.replicate, List.getElem?_cons_succ, List.getElem?_cons_zero, List.getElem?_nil, List.set_cons_succ, List.set_cons_zero, List.all_cons, List.all_nil, setAll, ixT0, ixT1, ixT2, ixL0, ixL1, ixL2, Option.map_some, Option.map_none, Option.bind_some, Option.bind_none,
      addV, subV, mulV, modV, divV, powV, negV, lenV, intV, absI, enumV, iterV, PD.slV, boolV, truthV, ltD, revA, ltV, gtV, leV, geV, isV, isNone, Bool.false_xor, Bool.true_xor, Bool.not_true, Bool.not_false, Bool.and_true, Bool.true_and, Bool.and_false, Bool.false_and, decide_true, decide_false, decide_eq_true_eq, Bool.and_eq_true, if_true, if_false, reduceIte, Bool.false_eq_true, Str.empty_append, List.length_append, ite_true, ite_false, true_and, and_true, Int.cast_ofNat_Int, Nat.reduceAdd, Nat.reduceSub, Nat.reduceLT, Int.reduceLT, Int.reduceSub, Int.reduceAdd, Int.reduceNeg, Int.reduceLE, Int.reduceToNat, Nat.lt_add_one])
local macro_rules
  | `(tactic| walk_at "g") => `(tactic| simp only [sSeq, ssat_next, ssat_toS, ssat_nx, ssat_rt, ssat_bk, ssat_ct, ssat_bad, ssat_ite, if_false_right, sat_ok, sat_bad, sat_exc, sat_bind, sat_ite, sPutO, sPutI, sPutD, eD, ownD, sAsg, fE, sIf, sNx, sRet, sDrop, sOwn, sApp, sExt, sPar, sFor, e1, e2, eV, eC, eA, eA1, aC, aN, eSl, oN, oS, eP, eM1, eIf, eCall, eChain, eJ, jC, jN, bB, bTr, bAnd, bOr, bNot, eAnd, eOr, eNot, bYes, iSeq, iA, ofG, ofO, fmtV, strV, tupleV, listV, iaddV, PD.eq_int, PD.eq_str, eq_self, gSet, ggNil, ggCons, ggTup, mkTup, mkLst, mkObj, asDs, asD, ownL,
      List.map_cons, List.map_nil, List.cons_append, List.nil_append, List.length_cons, List.length_nil, List.length_set, List.replicate, List.getElem?_cons_succ, List.getElem?_cons_zero, List.getElem?_nil, List.set_cons_succ, List.set_cons_zero, List.all_cons, List.all_nil, setAll, ixT0, ixT1, ixT2, ixL0, ixL1, ixL2, Option.map_some, Option.map_none, Option.bind_some, Option.bind_none,
      addV, subV, mulV, modV, divV, powV, negV, lenV, intV, absI, enumV, iterV, PD.slV, boolV, truthV, ltD, revA, ltV, gtV, leV, geV, isV, isNone, Bool.false_xor, Bool.true_xor, Bool.not_true, Bool.not_false, Bool.and_true, Bool.true_and, Bool.and_false, Bool.false_and, decide_true, decide_false, decide_eq_true_eq, Bool.and_eq_true, if_true, if_false, reduceIte, Bool.false_eq_true, Str.empty_append, List.length_append, ite_true, ite_false, true_and, and_true, Int.cast_ofNat_Int, Nat.reduceAdd, Nat.reduceSub, Nat.reduceLT, Int.reduceLT, Int.reduceSub, Int.reduceAdd, Int.reduceNeg, Int.reduceLE, Int.reduceToNat, Nat.lt_add_one, beq_iff_eq, sizeLine_eq, Nat.reduceLeDiff, inV_tup, inV_lst, eqv_str, eqv_int, eqV_nilT, cutD_tail, false_and, and_false, or_true, true_or, or_false, false_or, ixT3, Bool.true_eq_false, Bool.or_eq_false_iff, decide_eq_false_iff_not, Int.not_le, Int.not_lt, beq_self_eq_true, Int.reduceBEq, Bool.not_eq_eq_eq_not, beq_eq_false_iff_ne, ne_eq, not_true_eq_false, not_false_eq_true, List.isEmpty_cons, List.isEmpty_nil, List.any_cons, List.any_nil, Bool.or_false, Bool.or_eq_true, isaV, PyData.isInt, PyData.isStr, PyData.isBool, PyData.isTuple, PyData.isList, PyData.isDict, m_deed_at_1_E, m_deed_at_E, m_walk_1_E, m_walk_2_E, m_walk_4_E, m_walk_5_E, m_walk_6_E, m_walk_7_E, m_walk_8_E, m_walk_10_E, m_walk_9_E, m_walk_11_E, m_walk_13_E, m_walk_15_E, m_walk_17_E, m_walk_14_E, m_walk_12_E, m_walk_3_E, m_walk_18_E, m_walk_E, m_verdict_1_E, m_verdict_E])
local macro_rules
  | `(tactic| walk_at "gt") => `(tactic| try walk_at "go")
local macro_rules
  | `(tactic| walk_at "gq") => `(tactic| try walk_at "g0")
local macro_rules
  | `(tactic| walk_at "len") => `(tactic| (simp only [Str.length_append, PySem.ofString_length, len_nil, sizeLine_eq] at *; omega))
local macro_rules
  | `(tactic| walk_at "fin") => `(tactic| ((repeat' apply And.intro) <;> first | assumption | exact True.intro | walk_at "len" | rfl))
local macro_rules
  | `(tactic| walk_at "start") => `(tactic| (rw [sat_body]; simp only [List.map_cons, List.map_nil, List.cons_append, List.nil_append, List.length_cons, List.length_nil, Nat.reduceAdd, Nat.reduceSub, List.replicate]))
local macro_rules
  | `(tactic| walk_at "wd") => `(tactic| first | assumption | exact Wd.none | exact Wd.bool | exact Wd.small (by decide) (by decide) | exact Wd.lit (by decide) | exact Wd.dict0 | exact Wd.tup Wds.nil | exact Wd.lst Wds.nil | (refine Wd.t1 (k := 2) (a := 990) ?_ (by decide) <;> walk_at "wd") | (refine Wd.t2 (k := 2) (a := 990) (b := 990) ?_ ?_ (by decide) <;> walk_at "wd") | (refine Wd.t3 (k := 2) (a := 990) (b := 990) (c := 990) ?_ ?_ ?_ (by decide) <;> walk_at "wd") | (refine Wd.t4 (k := 2) (a := 990) (b := 990) (c := 990) (e := 990) ?_ ?_ ?_ ?_ (by decide) <;> walk_at "wd") | (refine Wd.t1 (k := 1) (a := 240) ?_ (by decide) <;> walk_at "wd") | (refine Wd.t2 (k := 1) (a := 240) (b := 240) ?_ ?_ (by decide) <;> walk_at "wd") | (refine Wd.t3 (k := 1) (a := 240) (b := 240) (c := 240) ?_ ?_ ?_ (by decide) <;> walk_at "wd") | (refine Wd.t4 (k := 1) (a := 240) (b := 240) (c := 240) (e := 240) ?_ ?_ ?_ ?_ (by decide) <;> walk_at "wd") | (refine Wd.t1 (k := 0) (a := 55) ?_ (by decide) <;> walk_at "wd") | (refine Wd.t2 (k := 0) (a := 55) (b := 55) ?_ ?_ (by decide) <;> walk_at "wd") | (refine Wd.t3 (k := 0) (a := 55) (b := 55) (c := 55) ?_ ?_ ?_ (by decide) <;> walk_at "wd") | (refine Wd.t4 (k := 0) (a := 55) (b := 55) (c := 55) (e := 55) ?_ ?_ ?_ ?_ (by decide) <;> walk_at "wd"))
theorem cut_lastP {ds : List PyData} {x : PyData} : PD.cutD (ds ++ [x]) none (some (-1)) = ds := by
  unfold PD.cutD
  have h1 : HT.sIx (ds ++ [x]).length 0 none = 0 := rfl
  have h2 : HT.sIx (ds ++ [x]).length (ds ++ [x]).length (some (-1)) = ds.length := by
    simp only [HT.sIx, List.length_append, List.length_cons, List.length_nil]
    first | omega | (split <;> omega) | (simp; omega)
  rw [h1, h2]
  simp
def vdD : Res → PyData
  | .out _ => .str "out"
  | .ever => .str "ever"
  | .stop w => .str w
theorem deed_at_eq {R : Rob} {st : Int} {s : Str} {q : Int} {S : Store} (h : RobWf R) (h0 : 0 ≤ st) (h1 : st < R.length) (hs : Tx 20 s) : F_deed_at [.d (robD R), .d (.int st), .d (.str s), .d (.int q)] S = .ok (.d (deedOf (R.getD st.toNat []) (ruleOf (R.getD st.toNat []) s q)).d) S := by
  refine sat_eq ?_
  unfold F_deed_at
  walk_at "start"
  rw [m_deed_at_E]
  walk_at "g"
  rw [rule_for_eq h h0 h1 hs]
  walk_at "g"
  rw [deed_by_eq h h0 h1 (fun i hi => by unfold ruleOf at hi; exact (List.findIdx?_eq_some_iff_getElem.mp hi).1)]
  walk_at "g"
theorem walk_eq {m : Maze} {R : Rob} {S : Store} (h : RobWf R) (w : m.Wf) (hm : m.size ≤ 1000) : F_walk [.d m.d, .d (robD R)] S = .ok (.d (.tuple [vdD (goOf m R 0).1, .tuple ((goOf m R 0).2.map Std.d)])) S := by
  have sz : sizeLine = 16777216 := sizeLine_eq
  have rf := h.few
  have hN : 3 * m.size * R.length ≤ 300000 := by
    have := Nat.mul_le_mul (show 3 * m.size ≤ 3000 by omega) rf
    omega
  refine sat_eq ?_
  unfold F_walk
  walk_at "start"
  rw [m_walk_E]
  walk_at "g"
  simp only [eDc]
  walk_at "g"
  rw [rooms_ok w hm]
  walk_at "g"
  rw [show ([] : List (PyData × PyData)) = dmap pk [] from rfl, dc_map pk_enc (kf := fun q : List Int × Maze => q.1) (vf := fun q : List Int × Maze => (rv q).2) (fun q hq => ?_) (Maze.rooms_nodup [] m) (by simp) (by rw [Maze.rooms_len]; simp; omega)]
  rotate_left
  · refine ⟨_, rfl, ?_, ?_⟩
    · obtain ⟨p, s, bs⟩ := q
      rfl
    · obtain ⟨p, s, bs⟩ := q
      refine sat_eq ?_
      simp only [wipeF, Maze.pr, Maze.d]
      walk_at "g"
      first | rfl | (rw [Maze.ds_len]; rfl)
  walk_at "g"
  rw [show (List.map (fun y : List Int × Maze => (y.1, (rv y).2)) (Maze.rooms [] m)) = (Maze.rooms [] m).map rv from rfl]
  generalize hfd : (Maze.rooms [] m).map rv = rms
  have find : ∀ {p : List Int} {b : Maze}, Maze.at? m p = some b → (rms.find? fun y => decide (y.1 = p)).map (·.2) = some (.tuple [.str b.sign, .int (1 + (b.brs.length : Nat))]) := fun e => by
    rw [← hfd]
    exact find_room (List.Perm.refl _) e
  refine ssat_mid (fun fr S' => S' = S ∧ (goOf m R 0).1 = .ever ∧ ∃ x3 x5 x6 x7 x8 x9 x10 x11 x12 x13, fr = [some (.d m.d), some (.d (robD R)), some (.d (.dict (dmap pk rms))), x3, some (.d (.list ((goOf m R 0).2.map Std.d))), x5, x6, x7, x8, x9, x10, x11, x12, x13]) ?_ ?_
  · simp only [sWhile]
    refine ssat_while (fun k fr S' => S' = S ∧ ∃ seen x x6 x7 x8 x9 x10 x11 x12 x13, fr = [some (.d m.d), some (.d (robD R)), some (.d (.dict (dmap pk rms))), some (.d (Std.d x)), some (.d (.list (seen.map Std.d))), some (.d (.dict (dmap Std.d (seen.map yes)))), x6, x7, x8, x9, x10, x11, x12, x13] ∧
      wRun m R k seen x = goOf m R 0 ∧ k + seen.length = 3 * m.size * R.length + 1 ∧ seen.Nodup ∧ (∀ y ∈ seen, y.In m R) ∧ x.In m R)
      (fun k fr S' ⟨e1, seen, x, x6, x7, x8, x9, x10, x11, x12, x13, e2, er, ek, nd, inr, hx⟩ => ?_) (3 * m.size * R.length + 1) fuel (by unfold fuel; omega)
      ⟨rfl, [], ⟨[], 0, 0⟩, none, none, none, none, none, none, none, none, rfl, rfl, rfl, List.nodup_nil, by simp, ⟨m, Maze.at_nil m, by simp, by simp; omega⟩, by simp, by have := h.one; simp; omega⟩
    subst e1 e2
    have sl := std_few w nd inr
    walk_at "g"
    rw [in_dict std_enc, yes_map]
    walk_at "g"
    obtain ⟨k, rfl⟩ : ∃ j, k = j + 1 := ⟨k - 1, by omega⟩
    by_cases hmm : x ∈ seen
    · simp only [eq_true hmm]
      walk_at "g"
      rw [wRun, if_pos hmm] at er
      rw [← er]
      exact ⟨rfl, _, _, _, _, _, _, _, _, _, _, rfl⟩
    · simp only [eq_false hmm]
      walk_at "g"
      rw [wRun, if_neg hmm] at er
      refine ⟨⟨⟨std_enc.key _, tupKeys_map std_enc _⟩, by unfold dmap; simp only [List.length_map]; omega⟩, by rw [List.length_map]; omega, ?_⟩
      rw [dput_yes std_enc, addOnce_new hmm, show seen.map Std.d ++ [x.d] = (seen ++ [x]).map Std.d by rw [List.map_append]; rfl]
      have nd2 : (seen ++ [x]).Nodup := by
        rw [List.nodup_append]
        exact ⟨nd, by simp, fun a ha b hb q => hmm (by rw [← List.mem_singleton.mp hb, ← q]; exact ha)⟩
      have in2 : ∀ y ∈ seen ++ [x], y.In m R := fun y hy => (List.mem_append.mp hy).elim (inr y) fun q => by rw [List.mem_singleton.mp q]; exact hx
      have l2 : (seen ++ [x]).length = seen.length + 1 := by simp
      have nxt := (step_in h hx).2
      obtain ⟨⟨r, er1, d0, d1⟩, s0, s1⟩ := hx
      have rw' := (Maze.at_wf w er1)
      have pl := rw'.2
      have st20 : Tx 20 r.sign := by
        cases r with
        | mk s bs => exact rw'.1.sn.tx.mono (by decide)
      unfold wStep at er nxt
      rw [er1] at er nxt
      generalize hsx : seen ++ [x] = sx at *
      clear hsx
      obtain ⟨path, door, st⟩ := x
      simp only [gStep] at er nxt s0 s1 d0 d1 er1 pl
      simp only [Std.d]
      walk_at "g"
      rw [ix_dict1 pk_enc (find er1)]
      walk_at "g"
      rw [deed_at_eq h s0 s1 st20]
      walk_at "g"
      cases hd : deedOf (R.getD st.toNat []) (ruleOf (R.getD st.toNat []) r.sign (1 + (r.brs.length : Nat))) with
      | stop v =>
        rw [hd] at er
        simp only [Deed.d]
        walk_at "g"
        simp only at er
        rw [← er]
        rfl
      | go a b =>
        rw [hd] at er nxt
        simp only [Deed.d]
        walk_at "g"
        simp only [ne_go]
        walk_at "g"
        refine ⟨by omega, ?_⟩
        simp only at er nxt
        have m0 := Int.emod_nonneg (door + a) (show (1 : Int) + (r.brs.length : Nat) ≠ 0 by omega)
        by_cases z : 0 < (door + a) % (1 + (r.brs.length : Nat))
        · rw [if_pos z] at er nxt ⊢
          simp only [pk]
          walk_at "g"
          rw [show path.map PyData.int ++ [.int ((door + a) % (1 + (r.brs.length : Nat)))] = (path ++ [(door + a) % (1 + (r.brs.length : Nat))]).map .int by rw [List.map_append]; rfl]
          refine ⟨by rw [List.length_map]; omega, k, by omega, sx, ⟨path ++ [(door + a) % (1 + (r.brs.length : Nat))], 0, b⟩, _, _, _, _, _, _, _, _, rfl, er, by omega, nd2, in2, nxt _ rfl⟩
        · rw [if_neg z] at er nxt ⊢
          simp only [pk]
          rw [eqV_nilT]
          walk_at "g"
          rcases List.eq_nil_or_concat path with e | ⟨p0, q, e⟩
          · subst e
            simp only [List.getLast?_nil] at er
            simp only [List.map_nil, List.isEmpty_nil]
            walk_at "g"
            rw [← er]
            rfl
          · rw [List.concat_eq_append] at e
            subst e
            simp only [List.getLast?_append, List.getLast?_singleton, Option.some_or, List.dropLast_concat] at er nxt
            rw [show ((p0 ++ [q]).map PyData.int).isEmpty = false by simp]
            walk_at "g"
            rw [List.map_append, List.map_cons, List.map_nil, ixT_last, cut_lastP]
            walk_at "g"
            exact ⟨k, by omega, sx, ⟨p0, q, b⟩, _, _, _, _, _, _, _, _, rfl, er, by omega, nd2, in2, nxt _ rfl⟩
  · rintro fr S' ⟨rfl, et, x3, x5, x6, x7, x8, x9, x10, x11, x12, x13, rfl⟩
    walk_at "g"
    rw [et]
    rfl
end Wk
namespace Wk
open PySem PySem.Spec PyProof.Rows L2 PD
def m__law_signs_1 : SM := sAsg (gSet 2) (fE (eC (.str "abcdefghijklmnopqrstuvwxyz")))
def m__law_signs_2 : SM := sAsg (gSet 3) (fE (eM1 joinV (eC (.str "")) (eLc (iA rng1V (aC (eCall 2 F__law_draw (aC (eV 0) (aC (eC (.int 4)) (aN)))) (aN))) (gSet 5) (bYes) (eCall 2 F__law_one (aC (eV 0) (aC (eV 2) (aN)))) [5])))
def m__law_signs_3 : SM := sAsg (gSet 4) (fE (eM1 joinV (eC (.str "")) (eLc (iA rng1V (aC (eCall 2 F__law_draw (aC (eV 0) (aC (eC (.int 5)) (aN)))) (aN))) (gSet 5) (bYes) (eCall 2 F__law_one (aC (eV 0) (aC (eV 2) (aN)))) [5])))
def m__law_signs_4 : SM := sRet (eLc (iA rng1V (aC (eV 1) (aN))) (gSet 5) (bYes) (e2 addV (e2 addV (eV 3) (e2 ixV (eC (.str "bdgkpx")) (eV 5))) (eV 4)) [5])
def m__law_signs : SM := sSeq m__law_signs_1 (sSeq m__law_signs_2 (sSeq m__law_signs_3 m__law_signs_4))
theorem m__law_signs_1_E {fr : Fr} {S : Store} : m__law_signs_1 fr S = (sAsg (gSet 2) (fE (eC (.str "abcdefghijklmnopqrstuvwxyz")))) fr S := rfl
theorem m__law_signs_2_E {fr : Fr} {S : Store} : m__law_signs_2 fr S = (sAsg (gSet 3) (fE (eM1 joinV (eC (.str "")) (eLc (iA rng1V (aC (eCall 2 F__law_draw (aC (eV 0) (aC (eC (.int 4)) (aN)))) (aN))) (gSet 5) (bYes) (eCall 2 F__law_one (aC (eV 0) (aC (eV 2) (aN)))) [5])))) fr S := rfl
theorem m__law_signs_3_E {fr : Fr} {S : Store} : m__law_signs_3 fr S = (sAsg (gSet 4) (fE (eM1 joinV (eC (.str "")) (eLc (iA rng1V (aC (eCall 2 F__law_draw (aC (eV 0) (aC (eC (.int 5)) (aN)))) (aN))) (gSet 5) (bYes) (eCall 2 F__law_one (aC (eV 0) (aC (eV 2) (aN)))) [5])))) fr S := rfl
theorem m__law_signs_4_E {fr : Fr} {S : Store} : m__law_signs_4 fr S = (sRet (eLc (iA rng1V (aC (eV 1) (aN))) (gSet 5) (bYes) (e2 addV (e2 addV (eV 3) (e2 ixV (eC (.str "bdgkpx")) (eV 5))) (eV 4)) [5])) fr S := rfl
theorem m__law_signs_E {fr : Fr} {S : Store} : m__law_signs fr S = (sSeq m__law_signs_1 (sSeq m__law_signs_2 (sSeq m__law_signs_3 m__law_signs_4))) fr S := rfl
def F__law_signs : FN := bodyF 6 m__law_signs
local macro_rules
  | `(tactic| walk_at "go") => `(tactic| simp only [sSeq, ssat_next, ssat_toS, ssat_nx, ssat_rt, ssat_bk, ssat_ct, ssat_bad, ssat_ite, if_false_right, sat_ok, sat_bad, sat_exc, sat_bind, sat_ite, sPutO, sPutI, sPutD, eD, ownD, sAsg, fE, sIf, sNx, sRet, sDrop, sOwn, sApp, sExt, sPar, sFor, e1, e2, eV, eC, eA, eA1, aC, aN, eSl, oN, oS, eP, eM1, eIf, eCall, eChain, eJ, jC, jN, bB, bTr, bAnd, bOr, bNot, eAnd, eOr, eNot, bYes, iSeq, iA, ofG, ofO, fmtV, strV, tupleV, listV, iaddV, PD.eq_int, PD.eq_str, eq_self, gSet, ggNil, ggCons, ggTup, mkTup, mkLst, mkObj, asDs, asD, ownL,
      List.map_cons, List.map_nil, List.cons_append, List.nil_append, List.length_cons, List.length_nil, List.length_set, List.replicate, List.getElem?_cons_succ, List.getElem?_cons_zero, List.getElem?_nil, List.set_cons_succ, List.set_cons_zero, List.all_cons, List.all_nil, setAll, Option.map_some, Option.map_none, Option.bind_some, Option.bind_none,
      ixV, addV, subV, mulV, modV, divV, powV, negV, lenV, intV, absI, enumV, iterV, PD.slV, boolV, truthV, ltD, revA, ltV, gtV, leV, geV, isV, isNone, L2.atI, ixN, Bool.false_xor, Bool.true_xor, Bool.not_true, Bool.not_false, Bool.and_true, Bool.true_and, Bool.and_false, Bool.false_and, decide_true, decide_false, decide_eq_true_eq, Bool.and_eq_true, if_true, if_false, reduceIte, Bool.false_eq_true, Str.empty_append, List.length_append, ite_true, ite_false, true_and, and_true, Int.cast_ofNat_Int, Nat.reduceAdd, Nat.reduceSub, Nat.reduceLT, Int.reduceLT, Int.reduceLE, Int.reduceToNat, Nat.lt_add_one])
local macro_rules
  | `(tactic| walk_at "g0") => `(tactic| simp only [sSeq, ssat_next, ssat_toS, ssat_nx, ssat_rt, ssat_bk, ssat_ct, ssat_bad, ssat_ite, if_false_right, sat_ok, sat_bad, sat_exc, sat_bind, sat_ite, sPutO, sPutI, sPutD, eD, ownD, sAsg, fE, sIf, sNx, sRet, sDrop, sOwn, sApp, sExt, sPar, sFor, e1, e2, eV, eC, eA, eA1, aC, aN, eSl, oN, oS, eP, eM1, eIf, eCall, eChain, eJ, jC, jN, bB, bTr, bAnd, bOr, bNot, eAnd, eOr, eNot, bYes, iSeq, iA, ofG, ofO, fmtV, strV, tupleV, listV, iaddV, PD.eq_int, PD.eq_str, eq_self, gSet, ggNil, ggCons, ggTup, mkTup, mkLst, mkObj, asDs, asD, ownL,
      List.map_cons, List.map_nil, List.cons_append, List.nil_append, List.length_cons, List.length_nil, List.length_set, List.replicate, List.getElem?_cons_succ, List.getElem?_cons_zero, List.getElem?_nil, List.set_cons_succ, List.set_cons_zero, List.all_cons, List.all_nil, setAll, ixT0, ixT1, ixT2, ixL0, ixL1, ixL2, Option.map_some, Option.map_none, Option.bind_some, Option.bind_none,
      addV, subV, mulV, modV, divV, powV, negV, lenV, intV, absI, enumV, iterV, PD.slV, boolV, truthV, ltD, revA, ltV, gtV, leV, geV, isV, isNone, Bool.false_xor, Bool.true_xor, Bool.not_true, Bool.not_false, Bool.and_true, Bool.true_and, Bool.and_false, Bool.false_and, decide_true, decide_false, decide_eq_true_eq, Bool.and_eq_true, if_true, if_false, reduceIte, Bool.false_eq_true, Str.empty_append, List.length_append, ite_true, ite_false, true_and, and_true, Int.cast_ofNat_Int, Nat.reduceAdd, Nat.reduceSub, Nat.reduceLT, Int.reduceLT, Int.reduceLE, Int.reduceToNat, Nat.lt_add_one])
local macro_rules
  | `(tactic| walk_at "g1") => `(tactic| simp only [sSeq, ssat_next, ssat_toS, ssat_nx, ssat_rt, ssat_bk, ssat_ct, ssat_bad, ssat_ite, if_false_right, sat_ok, sat_bad, sat_exc, sat_bind, sat_ite, sPutO, sPutI, sPutD, eD, ownD, sAsg, fE, sIf, sNx, sRet, sDrop, sOwn, sApp, sExt, sPar, sFor, e1, e2, eV, eC, eA, eA1, aC, aN, eSl, oN, oS, eP, eM1, eIf, eCall, eChain, eJ, jC, jN, bB, bTr, bAnd, bOr, bNot, eAnd, eOr, eNot, bYes, iSeq, iA, ofG, ofO, fmtV, strV, tupleV, listV, iaddV, PD.eq_int, PD.eq_str, eq_self, gSet, ggNil, ggCons, ggTup, mkTup, mkLst, mkObj, asDs, asD, ownL,
      List.map_cons, List.map_nil, List.cons_append, List.nil_append, List.length_cons, List.length_nil, List.length_set, List.replicate, List.getElem?_cons_succ, List.getElem?_cons_zero, List.getElem?_nil, List.set_cons_succ, List.set_cons_zero, List.all_cons, List.all_nil, setAll, ixT0, ixT1, ixT2, ixL0, ixL1, ixL2, Option.map_some, Option.map_none, Option.bind_some, Option.bind_none,
      addV, subV, mulV, modV, divV, powV, negV, lenV, intV, absI, enumV, iterV, PD.slV, boolV, truthV, ltD, revA, ltV, gtV, leV, geV, isV, isNone, Bool.false_xor, Bool.true_xor, Bool.not_true, Bool.not_false, Bool.and_true, Bool.true_and, Bool.and_false, Bool.false_and, decide_true, decide_false, decide_eq_true_eq, Bool.and_eq_true, if_true, if_false, reduceIte, Bool.false_eq_true, Str.empty_append, List.length_append, ite_true, ite_false, true_and, and_true, Int.cast_ofNat_Int, Nat.reduceAdd, Nat.reduceSub, Nat.reduceLT, Int.reduceLT, Int.reduceSub, Int.reduceAdd, Int.reduceNeg, Int.reduceLE, Int.reduceToNat, Nat.lt_add_one])
local macro_rules
  | `(tactic| walk_at "g") => `(tactic| simp only [sSeq, ssat_next, ssat_toS, ssat_nx, ssat_rt, ssat_bk, ssat_ct, ssat_bad, ssat_ite, if_false_right, sat_ok, sat_bad, sat_exc, sat_bind, sat_ite, sPutO, sPutI, sPutD, eD, ownD, sAsg, fE, sIf, sNx, sRet, sDrop, sOwn, sApp, sExt, sPar, sFor, e1, e2, eV, eC, eA, eA1, aC, aN, eSl, oN, oS, eP, eM1, eIf, eCall, eChain, eJ, jC, jN, bB, bTr, bAnd, bOr, bNot, eAnd, eOr, eNot, bYes, iSeq, iA, ofG, ofO, fmtV, strV, tupleV, listV, iaddV, PD.eq_int, PD.eq_str, eq_self, gSet, ggNil, ggCons, ggTup, mkTup, mkLst, mkObj, asDs, asD, ownL,
      List.map_cons, List.map_nil, List.cons_append, List.nil_append, List.length_cons, List.length_nil, List.length_set, List.replicate, List.getElem?_cons_succ, List.getElem?_cons_zero, List.getElem?_nil, List.set_cons_succ, List.set_cons_zero, List.all_cons, List.all_nil, setAll, ixT0, ixT1, ixT2, ixL0, ixL1, ixL2, Option.map_some, Option.map_none, Option.bind_some, Option.bind_none,
      addV, subV, mulV, modV, divV, powV, negV, lenV, intV, absI, enumV, iterV, PD.slV, boolV, truthV, ltD, revA, ltV, gtV, leV, geV, isV, isNone, Bool.false_xor, Bool.true_xor, Bool.not_true, Bool.not_false, Bool.and_true, Bool.true_and, Bool.and_false, Bool.false_and, decide_true, decide_false, decide_eq_true_eq, Bool.and_eq_true, if_true, if_false, reduceIte, Bool.false_eq_true, Str.empty_append, List.length_append, ite_true, ite_false, true_and, and_true, Int.cast_ofNat_Int, Nat.reduceAdd, Nat.reduceSub, Nat.reduceLT, Int.reduceLT, Int.reduceSub, Int.reduceAdd, Int.reduceNeg, Int.reduceLE, Int.reduceToNat, Nat.lt_add_one, beq_iff_eq, sizeLine_eq, Nat.reduceLeDiff, inV_tup, inV_lst, eqv_str, eqv_int, eqV_nilT, cutD_tail, false_and, and_false, or_true, true_or, or_false, false_or, ixT3, Bool.true_eq_false, Bool.or_eq_false_iff, decide_eq_false_iff_not, Int.not_le, Int.not_lt, beq_self_eq_true, Int.reduceBEq, Bool.not_eq_eq_eq_not, beq_eq_false_iff_ne, ne_eq, not_true_eq_false, not_false_eq_true, List.isEmpty_cons, List.isEmpty_nil, List.any_cons, List.any_nil, Bool.or_false, Bool.or_eq_true, isaV, PyData.isInt, PyData.isStr, PyData.isBool, PyData.isTuple, PyData.isList, PyData.isDict, m__law_signs_1_E, m__law_signs_2_E, m__law_signs_3_E, m__law_signs_4_E, m__law_signs_E])
local macro_rules
  | `(tactic| walk_at "gt") => `(tactic| try walk_at "go")
local macro_rules
  | `(tactic| walk_at "gq") => `(tactic| try walk_at "g0")
local macro_rules
  | `(tactic| walk_at "len") => `(tactic| (simp only [Str.length_append, PySem.ofString_length, len_nil, sizeLine_eq] at *; omega))
local macro_rules
  | `(tactic| walk_at "fin") => `(tactic| ((repeat' apply And.intro) <;> first | assumption | exact True.intro | walk_at "len" | rfl))
local macro_rules
  | `(tactic| walk_at "start") => `(tactic| (rw [sat_body]; simp only [List.map_cons, List.map_nil, List.cons_append, List.nil_append, List.length_cons, List.length_nil, Nat.reduceAdd, Nat.reduceSub, List.replicate]))
local macro_rules
  | `(tactic| walk_at "wd") => `(tactic| first | assumption | exact Wd.none | exact Wd.bool | exact Wd.small (by decide) (by decide) | exact Wd.lit (by decide) | exact Wd.dict0 | exact Wd.tup Wds.nil | exact Wd.lst Wds.nil | (refine Wd.t1 (k := 2) (a := 990) ?_ (by decide) <;> walk_at "wd") | (refine Wd.t2 (k := 2) (a := 990) (b := 990) ?_ ?_ (by decide) <;> walk_at "wd") | (refine Wd.t3 (k := 2) (a := 990) (b := 990) (c := 990) ?_ ?_ ?_ (by decide) <;> walk_at "wd") | (refine Wd.t4 (k := 2) (a := 990) (b := 990) (c := 990) (e := 990) ?_ ?_ ?_ ?_ (by decide) <;> walk_at "wd") | (refine Wd.t1 (k := 1) (a := 240) ?_ (by decide) <;> walk_at "wd") | (refine Wd.t2 (k := 1) (a := 240) (b := 240) ?_ ?_ (by decide) <;> walk_at "wd") | (refine Wd.t3 (k := 1) (a := 240) (b := 240) (c := 240) ?_ ?_ ?_ (by decide) <;> walk_at "wd") | (refine Wd.t4 (k := 1) (a := 240) (b := 240) (c := 240) (e := 240) ?_ ?_ ?_ ?_ (by decide) <;> walk_at "wd") | (refine Wd.t1 (k := 0) (a := 55) ?_ (by decide) <;> walk_at "wd") | (refine Wd.t2 (k := 0) (a := 55) (b := 55) ?_ ?_ (by decide) <;> walk_at "wd") | (refine Wd.t3 (k := 0) (a := 55) (b := 55) (c := 55) ?_ ?_ ?_ (by decide) <;> walk_at "wd") | (refine Wd.t4 (k := 0) (a := 55) (b := 55) (c := 55) (e := 55) ?_ ?_ ?_ ?_ (by decide) <;> walk_at "wd"))
theorem bdg_lw : ∀ c ∈ (Str.ofString "bdgkpx").cps.toList, 97 ≤ c ∧ c ≤ 122 := by decide +kernel
theorem bdg_len : (Str.ofString "bdgkpx").cps.toList.length = 6 := by decide +kernel
def signAt (l r : Str) (k : Nat) : Str := l ++ ⟨#[(Str.ofString "bdgkpx").cps.toList.getD k 0]⟩ ++ r
def signsOf (l r : Str) (n : Nat) : List PyData := (List.range n).map fun k => .str (signAt l r k)
theorem sign_lw {l r : Str} {k : Nat} (hl : Lw 3 l) (hr : Lw 4 r) (hk : k < 6) : Lw 8 (signAt l r k) := by
  have e : (Str.ofString "bdgkpx").cps.toList.getD k 0 ∈ (Str.ofString "bdgkpx").cps.toList := by
    rw [List.getD_eq_getElem?_getD, List.getElem?_eq_getElem (by rw [bdg_len]; exact hk)]
    exact List.getElem_mem _
  exact ((hl.app (Lw.one (bdg_lw _ e))).app hr).mono (by decide)
theorem letters_ok {rest : Store} {n k : Int} {S : Store} {fr : Fr} {b : Nat} (D : Deck rest n S) (hn : n ≤ 1000000000) (k0 : 0 ≤ k) (k1 : k ≤ b) (hb : b ≤ 100) (hf : ∃ x2 x3 x4 x1 x5, fr = [some (.obj 1), x1, some (.d (.str "abcdefghijklmnopqrstuvwxyz")), x3, x4, x5] ∧ x2 = x3) {Q : List PyData → Store → Prop} {X : Exc → Store → Prop}
    (h : ∀ (ts : List Str) S, (∀ t ∈ ts, Lw 1 t) → ts.length ≤ b → Deck rest (n + b) S → Q (ts.map .str) S) : (compF (gSet 5) bYes (eCall 2 F__law_one (aC (eV 0) (aC (eV 2) (aN)))) [5] fr (rngL 0 k) S []).sat Q X := by
  obtain ⟨_, x3, x4, x1, x5, rfl, _⟩ := hf
  refine sat_crng (fun j S acc => Deck rest (n + j) S ∧ ∀ d ∈ acc, ∃ s, d = .str s ∧ Lw 1 s) ⟨by simpa using D, by simp⟩ (fun j S acc hj ha h => ?_) (by omega) fun S acc ha h2 => ?_
  · refine ⟨_, rfl, ?_⟩
    simp only [wipeF]
    walk_at "go"
    refine (one_str h.1 (by omega) (by decide) (by decide)).on fun v S ⟨c, hc, e, D⟩ => ?_
    refine ⟨_, e, D.mono (by omega), fun d hd => ?_⟩
    rcases List.mem_append.mp hd with q | q
    · exact h.2 d q
    · rw [List.mem_singleton.mp q]
      exact ⟨_, rfl, Lw.one (abc_lw c hc)⟩
  · obtain ⟨ts, rfl, ht⟩ := strs_of_all h2.2
    rw [List.length_map] at ha
    exact h ts S ht (by omega) (h2.1.mono (by omega))
theorem signs_ok {rest : Store} {n many : Int} {S : Store} (D : Deck rest n S) (hn : n ≤ 900000000) (h0 : 0 ≤ many) (h1 : many ≤ 6) :
    (F__law_signs [.obj 1, .d (.int many)] S).sat (fun v S' => ∃ l r, Lw 3 l ∧ Lw 4 r ∧ v = .d (.list (signsOf l r many.toNat)) ∧ Deck rest (n + 9) S') NoX := by
  have sz : sizeLine = 16777216 := sizeLine_eq
  unfold F__law_signs
  walk_at "start"
  unfold m__law_signs
  refine seq_sat (fun fr S => fr = [some (.obj 1), some (.d (.int many)), some (.d (.str "abcdefghijklmnopqrstuvwxyz")), none, none, none] ∧ Deck rest n S) ?_ ?_
  · simp only [m__law_signs_1]
    walk_at "go"
    exact D
  rintro _ S ⟨rfl, D⟩
  refine seq_sat (fun fr S => ∃ l, Lw 3 l ∧ fr = [some (.obj 1), some (.d (.int many)), some (.d (.str "abcdefghijklmnopqrstuvwxyz")), some (.d (.str l)), none, none] ∧ Deck rest (n + 4) S) ?_ ?_
  · simp only [m__law_signs_2]
    walk_at "go"
    simp only [eLc]
    walk_at "go"
    refine (draw_ok D (by omega) (by decide) (by decide)).on fun v S ⟨q, e, q0, q1, D⟩ => ?_
    subst e
    rw [rng1_ok (by omega) (by omega)]
    walk_at "go"
    refine letters_ok (b := 3) D (by omega) q0 (by omega) (by decide) ⟨_, _, _, _, _, rfl, rfl⟩ fun ts S ht hl D => ?_
    rw [join_ok (n := 1) (m := 0) Tx.lit (fun t h => (ht t h).tx) (by omega)]
    walk_at "go"
    exact ⟨_, Lw.join0 ht hl, rfl, D.mono (by omega)⟩
  rintro _ S ⟨l, hl, rfl, D⟩
  refine seq_sat (fun fr S => ∃ r, Lw 4 r ∧ fr = [some (.obj 1), some (.d (.int many)), some (.d (.str "abcdefghijklmnopqrstuvwxyz")), some (.d (.str l)), some (.d (.str r)), none] ∧ Deck rest (n + 9) S) ?_ ?_
  · simp only [m__law_signs_3]
    walk_at "go"
    simp only [eLc]
    walk_at "go"
    refine (draw_ok D (by omega) (by decide) (by decide)).on fun v S ⟨q, e, q0, q1, D⟩ => ?_
    subst e
    rw [rng1_ok (by omega) (by omega)]
    walk_at "go"
    refine letters_ok (b := 4) D (by omega) q0 (by omega) (by decide) ⟨_, _, _, _, _, rfl, rfl⟩ fun ts S ht hl D => ?_
    rw [join_ok (n := 1) (m := 0) Tx.lit (fun t h => (ht t h).tx) (by omega)]
    walk_at "go"
    exact ⟨_, Lw.join0 ht hl, rfl, D.mono (by omega)⟩
  rintro _ S ⟨r, hr, rfl, D⟩
  simp only [m__law_signs_4]
  walk_at "go"
  simp only [eLc]
  walk_at "go"
  rw [rng1_ok (by omega) (by omega)]
  walk_at "go"
  refine sat_crng (fun j S acc => Deck rest (n + 9) S ∧ acc = signsOf l r j) ⟨D, rfl⟩ (fun j S acc hj ha h => ?_) (by omega) fun S acc ha h => ?_
  · obtain ⟨D, rfl⟩ := h
    refine ⟨_, rfl, ?_⟩
    simp only [wipeF]
    walk_at "go"
    have hb := bdg_len
    rw [if_pos (show (0 : Int) ≤ (j : Nat) by omega), if_pos (show ((j : Nat) : Int) < (Str.ofString "bdgkpx").cps.toList.length by omega), Option.bind_some, show ((j : Nat) : Int).toNat = j from rfl, List.getElem?_eq_getElem (by omega)]
    walk_at "go"
    have l1 := hl.1
    have r1 := hr.1
    refine ⟨by decide, by rw [Str1.len]; omega, by rw [Str.length_append, Str1.len]; omega, _, rfl, D, ?_⟩
    unfold signsOf
    rw [List.range_succ, List.map_append]
    unfold signAt
    rw [List.map_cons, List.map_nil, List.getD_eq_getElem?_getD, List.getElem?_eq_getElem (by omega)]
    rfl
  · obtain ⟨D, rfl⟩ := h
    exact ⟨l, r, hl, hr, rfl, D⟩
theorem sign_sn {l r : Str} {k : Nat} (hl : Lw 3 l) (hr : Lw 4 r) (hk : k < 6) : Sn (signAt l r k) := by
  refine ⟨sign_lw hl hr hk, ?_⟩
  unfold signAt
  rw [Str.length_append, Str.length_append, Str1.len]
  omega
end Wk
namespace Wk
open PySem PySem.Spec PyProof.Rows L2 PD
def m__law_mazes_1 : SM := sOwn 4 13 (eLc (iSeq (eV 1)) (ggTup 2 (ggCons (gSet 7) (ggCons (gSet 8) (ggNil)))) (bB (e2 (eqV false) (eV 8) (eC (.int 0)))) (eA mkTup (aC (eV 7) (aC (eA mkTup (aN)) (aN)))) [7, 8])
def m__law_mazes_2 : SM := sOwn 5 13 (e2 repL (eA mkLst (aC (eC (.int 1)) (aN))) (eA1 lenV (eP 4)))
def m__law_mazes_4 : SM := sAsg (ggTup 2 (ggCons (gSet 7) (ggCons (gSet 8) (ggNil)))) (fE (eCall 2 F__law_one (aC (eV 0) (aC (eV 1) (aN)))))
def m__law_mazes_5 : SM := sOwn 9 13 (eLc (iA rng1V (aC (eV 8) (aN))) (gSet 11) (bYes) (eCall 2 F__law_draw (aC (eV 0) (aC (eA1 lenV (eP 4)) (aN)))) [11])
def m__law_mazes_7 : SM := sPutI 9 (e2 subV (eA1 lenV (eP 4)) (eC (.int 1))) (eCall 2 F__law_draw (aC (eV 0) (aC (eV 8) (aN))))
def m__law_mazes_6 : SM := sIf (bAnd (bB (e2 gtV (eV 8) (eC (.int 0)))) (bB (e2 gtV (eCall 2 F__law_draw (aC (eV 0) (aC (eC (.int 3)) (aN)))) (eC (.int 0))))) (m__law_mazes_7) (sNx)
def m__law_mazes_8 : SM := sAsg (gSet 10) (fE (e2 addV (eC (.int 1)) (eA1 sumV (eLc (iSeq (eP 9)) (gSet 12) (bYes) (e2 ixV (eP 5) (eV 12)) [12]))))
def m__law_mazes_10 : SM := sApp 4 (eA mkTup (aC (eV 7) (aC (eA1 tupleV (eLc (iSeq (eP 9)) (gSet 12) (bYes) (e2 ixV (eP 4) (eV 12)) [12])) (aN))))
def m__law_mazes_11 : SM := sApp 5 (eV 10)
def m__law_mazes_9 : SM := sIf (bB (e2 leV (eV 10) (eV 3))) (sSeq m__law_mazes_10 m__law_mazes_11) (sNx)
def m__law_mazes_3 : SM := sFor (gSet 6) (iA rng1V (aC (eV 2) (aN)))
    (sSeq m__law_mazes_4 (sSeq m__law_mazes_5 (sSeq m__law_mazes_6 (sSeq m__law_mazes_8 m__law_mazes_9))))
def m__law_mazes_12 : SM := sRet (eV 4)
def m__law_mazes : SM := sSeq m__law_mazes_1 (sSeq m__law_mazes_2 (sSeq m__law_mazes_3 m__law_mazes_12))
theorem m__law_mazes_1_E {fr : Fr} {S : Store} : m__law_mazes_1 fr S = (sOwn 4 13 (eLc (iSeq (eV 1)) (ggTup 2 (ggCons (gSet 7) (ggCons (gSet 8) (ggNil)))) (bB (e2 (eqV false) (eV 8) (eC (.int 0)))) (eA mkTup (aC (eV 7) (aC (eA mkTup (aN)) (aN)))) [7, 8])) fr S := rfl
theorem m__law_mazes_2_E {fr : Fr} {S : Store} : m__law_mazes_2 fr S = (sOwn 5 13 (e2 repL (eA mkLst (aC (eC (.int 1)) (aN))) (eA1 lenV (eP 4)))) fr S := rfl
theorem m__law_mazes_4_E {fr : Fr} {S : Store} : m__law_mazes_4 fr S = (sAsg (ggTup 2 (ggCons (gSet 7) (ggCons (gSet 8) (ggNil)))) (fE (eCall 2 F__law_one (aC (eV 0) (aC (eV 1) (aN)))))) fr S := rfl
theorem m__law_mazes_5_E {fr : Fr} {S : Store} : m__law_mazes_5 fr S = (sOwn 9 13 (eLc (iA rng1V (aC (eV 8) (aN))) (gSet 11) (bYes) (eCall 2 F__law_draw (aC (eV 0) (aC (eA1 lenV (eP 4)) (aN)))) [11])) fr S := rfl
theorem m__law_mazes_7_E {fr : Fr} {S : Store} : m__law_mazes_7 fr S = (sPutI 9 (e2 subV (eA1 lenV (eP 4)) (eC (.int 1))) (eCall 2 F__law_draw (aC (eV 0) (aC (eV 8) (aN))))) fr S := rfl
theorem m__law_mazes_6_E {fr : Fr} {S : Store} : m__law_mazes_6 fr S = (sIf (bAnd (bB (e2 gtV (eV 8) (eC (.int 0)))) (bB (e2 gtV (eCall 2 F__law_draw (aC (eV 0) (aC (eC (.int 3)) (aN)))) (eC (.int 0))))) (m__law_mazes_7) (sNx)) fr S := rfl
theorem m__law_mazes_8_E {fr : Fr} {S : Store} : m__law_mazes_8 fr S = (sAsg (gSet 10) (fE (e2 addV (eC (.int 1)) (eA1 sumV (eLc (iSeq (eP 9)) (gSet 12) (bYes) (e2 ixV (eP 5) (eV 12)) [12]))))) fr S := rfl
theorem m__law_mazes_10_E {fr : Fr} {S : Store} : m__law_mazes_10 fr S = (sApp 4 (eA mkTup (aC (eV 7) (aC (eA1 tupleV (eLc (iSeq (eP 9)) (gSet 12) (bYes) (e2 ixV (eP 4) (eV 12)) [12])) (aN))))) fr S := rfl
theorem m__law_mazes_11_E {fr : Fr} {S : Store} : m__law_mazes_11 fr S = (sApp 5 (eV 10)) fr S := rfl
theorem m__law_mazes_9_E {fr : Fr} {S : Store} : m__law_mazes_9 fr S = (sIf (bB (e2 leV (eV 10) (eV 3))) (sSeq m__law_mazes_10 m__law_mazes_11) (sNx)) fr S := rfl
theorem m__law_mazes_3_E {fr : Fr} {S : Store} : m__law_mazes_3 fr S = (sFor (gSet 6) (iA rng1V (aC (eV 2) (aN)))
    (sSeq m__law_mazes_4 (sSeq m__law_mazes_5 (sSeq m__law_mazes_6 (sSeq m__law_mazes_8 m__law_mazes_9))))) fr S := rfl
theorem m__law_mazes_12_E {fr : Fr} {S : Store} : m__law_mazes_12 fr S = (sRet (eV 4)) fr S := rfl
theorem m__law_mazes_E {fr : Fr} {S : Store} : m__law_mazes fr S = (sSeq m__law_mazes_1 (sSeq m__law_mazes_2 (sSeq m__law_mazes_3 m__law_mazes_12))) fr S := rfl
def F__law_mazes : FN := bodyF 13 m__law_mazes
local macro_rules
  | `(tactic| walk_at "go") => `(tactic| simp only [sSeq, ssat_next, ssat_toS, ssat_nx, ssat_rt, ssat_bk, ssat_ct, ssat_bad, ssat_ite, if_false_right, sat_ok, sat_bad, sat_exc, sat_bind, sat_ite, sPutO, sPutI, sPutD, eD, ownD, sAsg, fE, sIf, sNx, sRet, sDrop, sOwn, sApp, sExt, sPar, sFor, e1, e2, eV, eC, eA, eA1, aC, aN, eSl, oN, oS, eP, eM1, eIf, eCall, eChain, eJ, jC, jN, bB, bTr, bAnd, bOr, bNot, eAnd, eOr, eNot, bYes, iSeq, iA, ofG, ofO, fmtV, strV, tupleV, listV, iaddV, PD.eq_int, PD.eq_str, eq_self, gSet, ggNil, ggCons, ggTup, mkTup, mkLst, mkObj, asDs, asD, ownL,
      List.map_cons, List.map_nil, List.cons_append, List.nil_append, List.length_cons, List.length_nil, List.length_set, List.replicate, List.getElem?_cons_succ, List.getElem?_cons_zero, List.getElem?_nil, List.set_cons_succ, List.set_cons_zero, List.all_cons, List.all_nil, setAll, Option.map_some, Option.map_none, Option.bind_some, Option.bind_none,
      ixV, addV, subV, mulV, modV, divV, powV, negV, lenV, intV, absI, enumV, iterV, PD.slV, boolV, truthV, ltD, revA, ltV, gtV, leV, geV, isV, isNone, L2.atI, ixN, Bool.false_xor, Bool.true_xor, Bool.not_true, Bool.not_false, Bool.and_true, Bool.true_and, Bool.and_false, Bool.false_and, decide_true, decide_false, decide_eq_true_eq, Bool.and_eq_true, if_true, if_false, reduceIte, Bool.false_eq_true, Str.empty_append, List.length_append, ite_true, ite_false, true_and, and_true, Int.cast_ofNat_Int, Nat.reduceAdd, Nat.reduceSub, Nat.reduceLT, Int.reduceLT, Int.reduceLE, Int.reduceToNat, Nat.lt_add_one])
local macro_rules
  | `(tactic| walk_at "g0") => `(tactic| simp only [sSeq, ssat_next, ssat_toS, ssat_nx, ssat_rt, ssat_bk, ssat_ct, ssat_bad, ssat_ite, if_false_right, sat_ok, sat_bad, sat_exc, sat_bind, sat_ite, sPutO, sPutI, sPutD, eD, ownD, sAsg, fE, sIf, sNx, sRet, sDrop, sOwn, sApp, sExt, sPar, sFor, e1, e2, eV, eC, eA, eA1, aC, aN, eSl, oN, oS, eP, eM1, eIf, eCall, eChain, eJ, jC, jN, bB, bTr, bAnd, bOr, bNot, eAnd, eOr, eNot, bYes, iSeq, iA, ofG, ofO, fmtV, strV, tupleV, listV, iaddV, PD.eq_int, PD.eq_str, eq_self, gSet, ggNil, ggCons, ggTup, mkTup, mkLst, mkObj, asDs, asD, ownL,
      List.map_cons, List.map_nil, List.cons_append, List.nil_append, List.length_cons, List.length_nil, List.length_set, List.replicate, List.getElem?_cons_succ, List.getElem?_cons_zero, List.getElem?_nil, List.set_cons_succ, List.set_cons_zero, List.all_cons, List.all_nil, setAll, ixT0, ixT1, ixT2, ixL0, ixL1, ixL2, Option.map_some, Option.map_none, Option.bind_some, Option.bind_none,
      addV, subV, mulV, modV, divV, powV, negV, lenV, intV, absI, enumV, iterV, PD.slV, boolV, truthV, ltD, revA, ltV, gtV, leV, geV, isV, isNone, Bool.false_xor, Bool.true_xor, Bool.not_true, Bool.not_false, Bool.and_true, Bool.true_and, Bool.and_false, Bool.false_and, decide_true, decide_false, decide_eq_true_eq, Bool.and_eq_true, if_true, if_false, reduceIte, Bool.false_eq_true, Str.empty_append, List.length_append, ite_true, ite_false, true_and, and_true, Int.cast_ofNat_Int, Nat.reduceAdd, Nat.reduceSub, Nat.reduceLT, Int.reduceLT, Int.reduceLE, Int.reduceToNat, Nat.lt_add_one])
local macro_rules
  | `(tactic| walk_at "g1") => `(tactic| simp only [sSeq, ssat_next, ssat_toS, ssat_nx, ssat_rt, ssat_bk, ssat_ct, ssat_bad, ssat_ite, if_false_right, sat_ok, sat_bad, sat_exc, sat_bind, sat_ite, sPutO, sPutI, sPutD, eD, ownD, sAsg, fE, sIf, sNx, sRet, sDrop, sOwn, sApp, sExt, sPar, sFor, e1, e2, eV, eC, eA, eA1, aC, aN, eSl, oN, oS, eP, eM1, eIf, eCall, eChain, eJ, jC, jN, bB, bTr, bAnd, bOr, bNot, eAnd, eOr, eNot, bYes, iSeq, iA, ofG, ofO, fmtV, strV, tupleV, listV, iaddV, PD.eq_int, PD.eq_str, eq_self, gSet, ggNil, ggCons, ggTup, mkTup, mkLst, mkObj, asDs, asD, ownL,
      List.map_cons, List.map_nil, List.cons_append, List.nil_append, List.length_cons, List.length_nil, List.length_set, List.replicate, List.getElem?_cons_succ, List.getElem?_cons_zero, List.getElem?_nil, List.set_cons_succ, List.set_cons_zero, List.all_cons, List.all_nil, setAll, ixT0, ixT1, ixT2, ixL0, ixL1, ixL2, Option.map_some, Option.map_none, Option.bind_some, Option.bind_none,
      addV, subV, mulV, modV, divV, powV, negV, lenV, intV, absI, enumV, iterV, PD.slV, boolV, truthV, ltD, revA, ltV, gtV, leV, geV, isV, isNone, Bool.false_xor, Bool.true_xor, Bool.not_true, Bool.not_false, Bool.and_true, Bool.true_and, Bool.and_false, Bool.false_and, decide_true, decide_false, decide_eq_true_eq, Bool.and_eq_true, if_true, if_false, reduceIte, Bool.false_eq_true, Str.empty_append, List.length_append, ite_true, ite_false, true_and, and_true, Int.cast_ofNat_Int, Nat.reduceAdd, Nat.reduceSub, Nat.reduceLT, Int.reduceLT, Int.reduceSub, Int.reduceAdd, Int.reduceNeg, Int.reduceLE, Int.reduceToNat, Nat.lt_add_one])
local macro_rules
  | `(tactic| walk_at "g") => `(tactic| simp only [sSeq, ssat_next, ssat_toS, ssat_nx, ssat_rt, ssat_bk, ssat_ct, ssat_bad, ssat_ite, if_false_right, sat_ok, sat_bad, sat_exc, sat_bind, sat_ite, sPutO, sPutI, sPutD, eD, ownD, sAsg, fE, sIf, sNx, sRet, sDrop, sOwn, sApp, sExt, sPar, sFor, e1, e2, eV, eC, eA, eA1, aC, aN, eSl, oN, oS, eP, eM1, eIf, eCall, eChain, eJ, jC, jN, bB, bTr, bAnd, bOr, bNot, eAnd, eOr, eNot, bYes, iSeq, iA, ofG, ofO, fmtV, strV, tupleV, listV, iaddV, PD.eq_int, PD.eq_str, eq_self, gSet, ggNil, ggCons, ggTup, mkTup, mkLst, mkObj, asDs, asD, ownL,
      List.map_cons, List.map_nil, List.cons_append, List.nil_append, List.length_cons, List.length_nil, List.length_set, List.replicate, List.getElem?_cons_succ, List.getElem?_cons_zero, List.getElem?_nil, List.set_cons_succ, List.set_cons_zero, List.all_cons, List.all_nil, setAll, ixT0, ixT1, ixT2, ixL0, ixL1, ixL2, Option.map_some, Option.map_none, Option.bind_some, Option.bind_none,
      addV, subV, mulV, modV, divV, powV, negV, lenV, intV, absI, enumV, iterV, PD.slV, boolV, truthV, ltD, revA, ltV, gtV, leV, geV, isV, isNone, Bool.false_xor, Bool.true_xor, Bool.not_true, Bool.not_false, Bool.and_true, Bool.true_and, Bool.and_false, Bool.false_and, decide_true, decide_false, decide_eq_true_eq, Bool.and_eq_true, if_true, if_false, reduceIte, Bool.false_eq_true, Str.empty_append, List.length_append, ite_true, ite_false, true_and, and_true, Int.cast_ofNat_Int, Nat.reduceAdd, Nat.reduceSub, Nat.reduceLT, Int.reduceLT, Int.reduceSub, Int.reduceAdd, Int.reduceNeg, Int.reduceLE, Int.reduceToNat, Nat.lt_add_one, beq_iff_eq, sizeLine_eq, Nat.reduceLeDiff, inV_tup, inV_lst, eqv_str, eqv_int, eqV_nilT, cutD_tail, false_and, and_false, or_true, true_or, or_false, false_or, ixT3, Bool.true_eq_false, Bool.or_eq_false_iff, decide_eq_false_iff_not, Int.not_le, Int.not_lt, beq_self_eq_true, Int.reduceBEq, Bool.not_eq_eq_eq_not, beq_eq_false_iff_ne, ne_eq, not_true_eq_false, not_false_eq_true, List.isEmpty_cons, List.isEmpty_nil, List.any_cons, List.any_nil, Bool.or_false, Bool.or_eq_true, isaV, PyData.isInt, PyData.isStr, PyData.isBool, PyData.isTuple, PyData.isList, PyData.isDict, m__law_mazes_1_E, m__law_mazes_2_E, m__law_mazes_4_E, m__law_mazes_5_E, m__law_mazes_7_E, m__law_mazes_6_E, m__law_mazes_8_E, m__law_mazes_10_E, m__law_mazes_11_E, m__law_mazes_9_E, m__law_mazes_3_E, m__law_mazes_12_E, m__law_mazes_E])
local macro_rules
  | `(tactic| walk_at "gt") => `(tactic| try walk_at "go")
local macro_rules
  | `(tactic| walk_at "gq") => `(tactic| try walk_at "g0")
local macro_rules
  | `(tactic| walk_at "len") => `(tactic| (simp only [Str.length_append, PySem.ofString_length, len_nil, sizeLine_eq] at *; omega))
local macro_rules
  | `(tactic| walk_at "fin") => `(tactic| ((repeat' apply And.intro) <;> first | assumption | exact True.intro | walk_at "len" | rfl))
local macro_rules
  | `(tactic| walk_at "start") => `(tactic| (rw [sat_body]; simp only [List.map_cons, List.map_nil, List.cons_append, List.nil_append, List.length_cons, List.length_nil, Nat.reduceAdd, Nat.reduceSub, List.replicate]))
local macro_rules
  | `(tactic| walk_at "wd") => `(tactic| first | assumption | exact Wd.none | exact Wd.bool | exact Wd.small (by decide) (by decide) | exact Wd.lit (by decide) | exact Wd.dict0 | exact Wd.tup Wds.nil | exact Wd.lst Wds.nil | (refine Wd.t1 (k := 2) (a := 990) ?_ (by decide) <;> walk_at "wd") | (refine Wd.t2 (k := 2) (a := 990) (b := 990) ?_ ?_ (by decide) <;> walk_at "wd") | (refine Wd.t3 (k := 2) (a := 990) (b := 990) (c := 990) ?_ ?_ ?_ (by decide) <;> walk_at "wd") | (refine Wd.t4 (k := 2) (a := 990) (b := 990) (c := 990) (e := 990) ?_ ?_ ?_ ?_ (by decide) <;> walk_at "wd") | (refine Wd.t1 (k := 1) (a := 240) ?_ (by decide) <;> walk_at "wd") | (refine Wd.t2 (k := 1) (a := 240) (b := 240) ?_ ?_ (by decide) <;> walk_at "wd") | (refine Wd.t3 (k := 1) (a := 240) (b := 240) (c := 240) ?_ ?_ ?_ (by decide) <;> walk_at "wd") | (refine Wd.t4 (k := 1) (a := 240) (b := 240) (c := 240) (e := 240) ?_ ?_ ?_ ?_ (by decide) <;> walk_at "wd") | (refine Wd.t1 (k := 0) (a := 55) ?_ (by decide) <;> walk_at "wd") | (refine Wd.t2 (k := 0) (a := 55) (b := 55) ?_ ?_ (by decide) <;> walk_at "wd") | (refine Wd.t3 (k := 0) (a := 55) (b := 55) (c := 55) ?_ ?_ ?_ (by decide) <;> walk_at "wd") | (refine Wd.t4 (k := 0) (a := 55) (b := 55) (c := 55) (e := 55) ?_ ?_ ?_ ?_ (by decide) <;> walk_at "wd"))
theorem mazes_ok {rest : Store} {n many most : Int} {S : Store} {K : PyData} {ps : List (Str × Int)} (kd : Kd ps) (hK : K = .list (ps.map pd) ∨ K = .tuple (ps.map pd)) (D : Deck rest n S) (hn : n ≤ 900000000) (h0 : 0 ≤ many) (h1 : many ≤ 1000) (t0 : 1 ≤ most) (t1 : most ≤ 100000) :
    (F__law_mazes [.obj 1, .d K, .d (.int many), .d (.int most)] S).sat (fun v S' => ∃ ms : List Maze, v = .d (.list (ms.map Maze.d)) ∧ ms ≠ [] ∧ ms.length ≤ 2000 ∧ (∀ m ∈ ms, m.Of ps ∧ (m.size : Int) ≤ most) ∧ Deck rest (n + 6 * many) S') NoX := by
  have sz : sizeLine = 16777216 := sizeLine_eq
  have kl := kd.len
  have it : ∀ S : Store, iterV (.d K) = some ((ps.map pd).map .d) := fun S => by rcases hK with rfl | rfl <;> rfl
  have one : ∀ {n : Int} {S : Store}, Deck rest n S → n ≤ 1000000000 → (F__law_one [.obj 1, .d K] S).sat (fun v S' => ∃ p ∈ ps, v = .d (pd p) ∧ Deck rest (n + 1) S') NoX := fun {n S} D hn => by
    have ne : ps.map pd ≠ [] := by
      obtain ⟨p, hp, _⟩ := kd.end_
      intro z
      rw [List.map_eq_nil_iff.mp z] at hp
      cases hp
    have few : (ps.map pd).length < 1073741824 := by rw [List.length_map]; omega
    have out : ∀ v S', (∃ d, d ∈ ps.map pd ∧ v = SV.d d ∧ Deck rest (n + 1) S') → ∃ p ∈ ps, v = SV.d (pd p) ∧ Deck rest (n + 1) S' := fun v S' ⟨d, hd, e, D⟩ => by
      obtain ⟨p, hp, rfl⟩ := List.mem_map.mp hd
      exact ⟨p, hp, e, D⟩
    rcases hK with rfl | rfl
    · exact (one_list D (by omega) ne few).on out
    · exact (one_tuple D (by omega) ne few).on out
  unfold F__law_mazes
  walk_at "start"
  unfold m__law_mazes
  let m0 : List Maze := (ps.filter fun p => p.2 == 0).map fun p => .mk p.1 []
  have m0len : m0.length ≤ 1000 := by
    rw [List.length_map]
    exact Nat.le_trans (List.length_filter_le _ _) kl
  have m0all : ∀ m ∈ m0, m.Of ps ∧ m.size = 1 := fun m hm => by
    obtain ⟨p, hp, rfl⟩ := List.mem_map.mp hm
    obtain ⟨h1, h2⟩ := List.mem_filter.mp hp
    have e : p.2 = 0 := by simpa using h2
    refine ⟨?_, by simp [Maze.size, Maze.sizes]⟩
    rw [Maze.Of]
    exact ⟨by rw [List.length_nil, show ((0 : Nat) : Int) = p.2 by omega]; exact h1, by simp [Maze.Ofs]⟩
  have m0ne : m0 ≠ [] := fun z => by
    obtain ⟨p, hp, p0⟩ := kd.end_
    have : p ∈ ps.filter fun p => p.2 == 0 := List.mem_filter.mpr ⟨hp, by simp [p0]⟩
    rw [List.map_eq_nil_iff.mp z] at this
    cases this
  refine seq_sat (fun fr S => fr = [some (.obj 1), some (.d K), some (.d (.int many)), some (.d (.int most)), some (.d (.list (m0.map Maze.d))), none, none, none, none, none, none, none, none] ∧ Deck rest n S) ?_ ?_
  · rcases hK with rfl | rfl
    all_goals
      simp only [m__law_mazes_1]
      walk_at "go"
      simp only [eLc]
      walk_at "go"
      rw [comp_mapf (b := fun p : Str × Int => p.2 == 0) (f := fun p => (Maze.mk p.1 []).d) (fun p hp => ⟨_, rfl, by
        refine sat_eq ?_
        simp only [wipeF]
        walk_at "go", fun _ => by
        refine sat_eq ?_
        simp only [wipeF, Maze.d, Maze.ds]
        walk_at "go"
        exact ⟨by omega, by omega⟩⟩) (by simp; omega)]
      walk_at "go"
      refine ⟨?_, D⟩
      rw [show m0.map Maze.d = (ps.filter fun p => p.2 == 0).map fun p => (Maze.mk p.1 []).d by rw [List.map_map]; rfl]
  rintro _ S ⟨rfl, D⟩
  refine seq_sat (fun fr S => fr = [some (.obj 1), some (.d K), some (.d (.int many)), some (.d (.int most)), some (.d (.list (m0.map Maze.d))), some (.d (.list (m0.map fun m => .int m.size))), none, none, none, none, none, none, none] ∧ Deck rest n S) ?_ ?_
  · simp only [m__law_mazes_2]
    walk_at "go"
    simp only [repL]
    walk_at "go"
    have : ∀ (l : List Maze), (∀ m ∈ l, m.size = 1) → (List.replicate l.length [PyData.int 1]).flatten = l.map fun m => PyData.int m.size := fun l => by
      induction l with
      | nil => exact fun _ => rfl
      | cons m l ih =>
        intro h
        rw [List.length_cons, List.replicate_succ, List.flatten_cons, ih fun x hx => h x (List.mem_cons_of_mem _ hx), List.map_cons, h m List.mem_cons_self]
        rfl
    have e1 : (m0.map Maze.d).length = m0.length := List.length_map _
    rw [e1, show ((m0.length : Nat) : Int).toNat = m0.length from rfl, this m0 fun m h => (m0all m h).2]
    exact ⟨by omega, ⟨⟨by omega, by omega⟩, by omega⟩, rfl, D⟩
  rintro _ S ⟨rfl, D⟩
  refine seq_sat (fun fr S => ∃ (ms : List Maze) (x5 x6 x7 x8 x9 x10 x11 x12 : Option SV), ms ≠ [] ∧ ms.length ≤ 2000 ∧ (∀ m ∈ ms, m.Of ps ∧ (m.size : Int) ≤ most) ∧ fr = [some (.obj 1), some (.d K), some (.d (.int many)), some (.d (.int most)), some (.d (.list (ms.map Maze.d))), x5, x6, x7, x8, x9, x10, x11, x12] ∧ Deck rest (n + 6 * many) S) ?_ ?_
  · simp only [m__law_mazes_3]
    walk_at "go"
    rw [rng1_ok (by omega) (by omega)]
    walk_at "go"
    refine ssat_rng (fun j fr S => ∃ (ms : List Maze) (x6 x7 x8 x9 x10 : Option SV), ms ≠ [] ∧ ms.length ≤ 1000 + j ∧ (∀ m ∈ ms, m.Of ps ∧ (m.size : Int) ≤ most) ∧ fr = [some (.obj 1), some (.d K), some (.d (.int many)), some (.d (.int most)), some (.d (.list (ms.map Maze.d))), some (.d (.list (ms.map fun m => .int m.size))), x6, x7, x8, x9, x10, none, none] ∧ Deck rest (n + 6 * j) S)
      ⟨m0, _, _, _, _, _, m0ne, by omega, fun m h => ⟨(m0all m h).1, by rw [(m0all m h).2]; omega⟩, rfl, D.mono (by omega)⟩ (fun j fr S hj ⟨ms, x6, x7, x8, x9, x10, ne, ml, ma, e, D⟩ => ?_) fun fr S ⟨ms, x6, x7, x8, x9, x10, ne, ml, ma, e, D⟩ =>
        ⟨ms, _, _, _, _, _, _, _, _, ne, by omega, ma, e, D.mono (by omega)⟩
    subst e
    refine ⟨_, rfl, ?_⟩
    have pos : 0 < ms.length := List.length_pos_iff.mpr ne
    simp only [m__law_mazes_4]
    walk_at "go"
    refine (one D (by omega)).on fun v S ⟨⟨s, c⟩, hp, e, D⟩ => ?_
    subst e
    simp only [pd]
    walk_at "go"
    have rg := kd.rg _ hp
    simp only at rg
    simp only [m__law_mazes_5]
    walk_at "go"
    simp only [eLc]
    walk_at "go"
    rw [rng1_ok (by omega) (by omega)]
    walk_at "go"
    refine sat_crng (fun l S acc => Deck rest (n + 6 * j + 1 + l) S ∧ ∃ ks : List Int, acc = ks.map .int ∧ ks.length = l ∧ ∀ k ∈ ks, 0 ≤ k ∧ k < ms.length) ⟨D.mono (by omega), [], rfl, rfl, by simp⟩ (fun l S acc hl ha ⟨D, ks, e, kl, ka⟩ => ?_) (by omega) fun S acc ha ⟨D, ks, e, kl, ka⟩ => ?_
    · subst e
      refine ⟨_, rfl, ?_⟩
      simp only [wipeF]
      walk_at "go"
      refine (draw_ok D (by omega) (by rw [List.length_map]; omega) (by rw [List.length_map]; omega)).on fun v S ⟨q, e, q0, q1, D⟩ => ?_
      subst e
      refine ⟨_, rfl, D.mono (by omega), ks ++ [q], by rw [List.map_append]; rfl, by simp [kl], fun k hk => ?_⟩
      rcases List.mem_append.mp hk with hk | hk
      · exact ka k hk
      · rw [List.mem_singleton.mp hk]
        rw [List.length_map] at q1
        exact ⟨q0, q1⟩
    · subst e
      refine ssat_mid (fun fr S => ∃ (ks : List Int), (ks.length : Int) = c ∧ (∀ k ∈ ks, 0 ≤ k ∧ k < ms.length) ∧ fr = [some (.obj 1), some (.d K), some (.d (.int many)), some (.d (.int most)), some (.d (.list (ms.map Maze.d))), some (.d (.list (ms.map fun m => .int m.size))), some (.d (.int (j : Nat))), some (.d (.str s)), some (.d (.int c)), some (.d (.list (ks.map .int))), x10, none, none] ∧ Deck rest (n + 6 * j + 6) S) ?_ ?_
      · simp only [m__law_mazes_6]
        walk_at "go"
        by_cases c0 : (0 : Int) < c
        · rw [if_pos c0]
          refine (draw_ok D (by omega) (by decide) (by decide)).on fun v S ⟨u, e, u0, u1, D⟩ => ?_
          subst e
          walk_at "go"
          by_cases hu : (0 : Int) < u
          · rw [if_pos hu]
            simp only [m__law_mazes_7]
            walk_at "go"
            refine (draw_ok D (by omega) (by omega) (by omega)).on fun v S ⟨w, e, w0, w1, D⟩ => ?_
            subst e
            walk_at "go"
            simp only [List.length_map]
            rw [if_pos w0, if_pos (by omega)]
            walk_at "go"
            refine ⟨ks.set w.toNat (ms.length - 1), by simp; omega, fun k hk => ?_, ?_, D.mono (by omega)⟩
            · rcases List.mem_or_eq_of_mem_set hk with hk | hk
              · exact ka k hk
              · rw [hk]
                omega
            · rw [List.map_set]
          · rw [if_neg hu]
            exact ⟨ks, by omega, ka, rfl, D.mono (by omega)⟩
        · rw [if_neg c0]
          exact ⟨ks, by omega, ka, rfl, D.mono (by omega)⟩
      rintro _ S ⟨ks, kl, ka, rfl, D⟩
      let bs : List Maze := ks.map fun k => ms.getD k.toNat default
      have bmem : ∀ m ∈ bs, m ∈ ms := fun m hm => by
        obtain ⟨k, hk, rfl⟩ := List.mem_map.mp hm
        have := ka k hk
        exact getD_mem (by omega)
      have bsum : (ks.map fun k => ((ms.getD k.toNat default).size : Int)).sum = (Maze.sizes bs : Nat) := by
        have : ∀ l : List Int, (l.map fun k => ((ms.getD k.toNat default).size : Int)).sum = (Maze.sizes (l.map fun k => ms.getD k.toNat default) : Nat) := fun l => by
          induction l with
          | nil => simp [Maze.sizes]
          | cons k l ih => rw [List.map_cons, List.sum_cons, ih, List.map_cons, Maze.sizes]; omega
        exact this ks
      simp only [m__law_mazes_8]
      walk_at "go"
      simp only [eLc]
      walk_at "go"
      rw [comp_map (f := fun k : Int => .int ((ms.getD k.toNat default).size : Nat)) (fun k hk => ⟨_, rfl, by
        refine sat_eq ?_
        simp only [wipeF]
        walk_at "g0"
        rw [ix_map (enc := fun m : Maze => .int m.size) (ka k hk).1 (ka k hk).2]
        walk_at "g0"⟩) (by simp; omega)]
      walk_at "go"
      rw [show (ks.map fun k : Int => PyData.int ((ms.getD k.toNat default).size : Nat)) = (ks.map fun k : Int => ((ms.getD k.toNat default).size : Int)).map .int by rw [List.map_map]; rfl, sum_ok, bsum]
      walk_at "go"
      simp only [m__law_mazes_9]
      walk_at "go"
      by_cases big : (1 : Int) + (Maze.sizes bs : Nat) ≤ most
      · rw [if_pos big]
        simp only [m__law_mazes_10]
        walk_at "go"
        simp only [eLc]
        walk_at "go"
        rw [comp_map (f := fun k : Int => (ms.getD k.toNat default).d) (fun k hk => ⟨_, rfl, by
          refine sat_eq ?_
          simp only [wipeF]
          walk_at "g0"
          rw [ix_map (enc := Maze.d) (ka k hk).1 (ka k hk).2]
          walk_at "g0"⟩) (by simp; omega)]
        walk_at "go"
        simp only [List.length_map]
        refine ⟨by omega, by omega, ?_⟩
        simp only [m__law_mazes_11]
        walk_at "go"
        simp only [List.length_map]
        have e1 : ms.map Maze.d ++ [PyData.tuple [.str s, .tuple (ks.map fun k => (ms.getD k.toNat default).d)]] = (ms ++ [Maze.mk s bs]).map Maze.d := by
          rw [List.map_append, List.map_cons, List.map_nil, Maze.d, Maze.ds_map, List.map_map]
          rfl
        have e2 : (ms.map fun m => PyData.int m.size) ++ [.int (1 + (Maze.sizes bs : Nat))] = (ms ++ [Maze.mk s bs]).map fun m => .int m.size := by
          rw [List.map_append, List.map_cons, List.map_nil, Maze.size]
          simp
        rw [e1, e2]
        refine ⟨by omega, ms ++ [.mk s bs], _, _, _, _, _, by simp, by simp; omega, fun m hm => ?_, rfl, D.mono (by omega)⟩
        rcases List.mem_append.mp hm with hm | hm
        · exact ma m hm
        · rw [List.mem_singleton.mp hm, Maze.Of, Maze.size]
          refine ⟨⟨by rw [List.length_map, kl]; exact hp, Maze.ofs_all.mpr fun m hm => (ma m (bmem m hm)).1⟩, by omega⟩
      · rw [if_neg big]
        exact ⟨ms, _, _, _, _, _, ne, by omega, ma, rfl, D.mono (by omega)⟩
  rintro _ S ⟨ms, x5, x6, x7, x8, x9, x10, x11, x12, ne, ml, ma, rfl, D⟩
  simp only [m__law_mazes_12]
  walk_at "go"
  exact ⟨ms, rfl, ne, ml, ma, D⟩
end Wk
namespace Wk
open PySem PySem.Spec PyProof.Rows L2 PD
def m__law_maze_1 : SM := sOwn 3 6 (eA mkLst (aN))
def m__law_maze_3 : SM := sExt 3 (eLc (iA rng1V (aC (eC (.int 3)) (aN))) (gSet 5) (bYes) (eA mkTup (aC (eV 4) (aC (eV 5) (aN)))) [5])
def m__law_maze_2 : SM := sFor (gSet 4) (iSeq (eV 1))
    (m__law_maze_3)
def m__law_maze_4 : SM := sRet (e2 ixV (eCall 4 F__law_mazes (aC (eV 0) (aC (eV 3) (aC (e2 addV (eC (.int 3)) (eCall 2 F__law_draw (aC (eV 0) (aC (eC (.int 30)) (aN))))) (aC (eV 2) (aN)))))) (e1 negV (eC (.int 1))))
def m__law_maze : SM := sSeq m__law_maze_1 (sSeq m__law_maze_2 m__law_maze_4)
theorem m__law_maze_1_E {fr : Fr} {S : Store} : m__law_maze_1 fr S = (sOwn 3 6 (eA mkLst (aN))) fr S := rfl
theorem m__law_maze_3_E {fr : Fr} {S : Store} : m__law_maze_3 fr S = (sExt 3 (eLc (iA rng1V (aC (eC (.int 3)) (aN))) (gSet 5) (bYes) (eA mkTup (aC (eV 4) (aC (eV 5) (aN)))) [5])) fr S := rfl
theorem m__law_maze_2_E {fr : Fr} {S : Store} : m__law_maze_2 fr S = (sFor (gSet 4) (iSeq (eV 1))
    (m__law_maze_3)) fr S := rfl
theorem m__law_maze_4_E {fr : Fr} {S : Store} : m__law_maze_4 fr S = (sRet (e2 ixV (eCall 4 F__law_mazes (aC (eV 0) (aC (eV 3) (aC (e2 addV (eC (.int 3)) (eCall 2 F__law_draw (aC (eV 0) (aC (eC (.int 30)) (aN))))) (aC (eV 2) (aN)))))) (e1 negV (eC (.int 1))))) fr S := rfl
theorem m__law_maze_E {fr : Fr} {S : Store} : m__law_maze fr S = (sSeq m__law_maze_1 (sSeq m__law_maze_2 m__law_maze_4)) fr S := rfl
def F__law_maze : FN := bodyF 6 m__law_maze
local macro_rules
  | `(tactic| walk_at "go") => `(tactic| simp only [sSeq, ssat_next, ssat_toS, ssat_nx, ssat_rt, ssat_bk, ssat_ct, ssat_bad, ssat_ite, if_false_right, sat_ok, sat_bad, sat_exc, sat_bind, sat_ite, sPutO, sPutI, sPutD, eD, ownD, sAsg, fE, sIf, sNx, sRet, sDrop, sOwn, sApp, sExt, sPar, sFor, e1, e2, eV, eC, eA, eA1, aC, aN, eSl, oN, oS, eP, eM1, eIf, eCall, eChain, eJ, jC, jN, bB, bTr, bAnd, bOr, bNot, eAnd, eOr, eNot, bYes, iSeq, iA, ofG, ofO, fmtV, strV, tupleV, listV, iaddV, PD.eq_int, PD.eq_str, eq_self, gSet, ggNil, ggCons, ggTup, mkTup, mkLst, mkObj, asDs, asD, ownL,
      List.map_cons, List.map_nil, List.cons_append, List.nil_append, List.length_cons, List.length_nil, List.length_set, List.replicate, List.getElem?_cons_succ, List.getElem?_cons_zero, List.getElem?_nil, List.set_cons_succ, List.set_cons_zero, List.all_cons, List.all_nil, setAll, Option.map_some, Option.map_none, Option.bind_some, Option.bind_none,
      ixV, addV, subV, mulV, modV, divV, powV, negV, lenV, intV, absI, enumV, iterV, PD.slV, boolV, truthV, ltD, revA, ltV, gtV, leV, geV, isV, isNone, L2.atI, ixN, Bool.false_xor, Bool.true_xor, Bool.not_true, Bool.not_false, Bool.and_true, Bool.true_and, Bool.and_false, Bool.false_and, decide_true, decide_false, decide_eq_true_eq, Bool.and_eq_true, if_true, if_false, reduceIte, Bool.false_eq_true, Str.empty_append, List.length_append, ite_true, ite_false, true_and, and_true, Int.cast_ofNat_Int, Nat.reduceAdd, Nat.reduceSub, Nat.reduceLT, Int.reduceLT, Int.reduceLE, Int.reduceToNat, Nat.lt_add_one])
local macro_rules
  | `(tactic| walk_at "g0") => `(tactic| simp only [sSeq, ssat_next, ssat_toS, ssat_nx, ssat_rt, ssat_bk, ssat_ct, ssat_bad, ssat_ite, if_false_right, sat_ok, sat_bad, sat_exc, sat_bind, sat_ite, sPutO, sPutI, sPutD, eD, ownD, sAsg, fE, sIf, sNx, sRet, sDrop, sOwn, sApp, sExt, sPar, sFor, e1, e2, eV, eC, eA, eA1, aC, aN, eSl, oN, oS, eP, eM1, eIf, eCall, eChain, eJ, jC, jN, bB, bTr, bAnd, bOr, bNot, eAnd, eOr, eNot, bYes, iSeq, iA, ofG, ofO, fmtV, strV, tupleV, listV, iaddV, PD.eq_int, PD.eq_str, eq_self, gSet, ggNil, ggCons, ggTup, mkTup, mkLst, mkObj, asDs, asD, ownL,
      List.map_cons, List.map_nil, List.cons_append, List.nil_append, List.length_cons, List.length_nil, List.length_set, List.replicate, List.getElem?_cons_succ, List.getElem?_cons_zero, List.getElem?_nil, List.set_cons_succ, List.set_cons_zero, List.all_cons, List.all_nil, setAll, ixT0, ixT1, ixT2, ixL0, ixL1, ixL2, Option.map_some, Option.map_none, Option.bind_some, Option.bind_none,
      addV, subV, mulV, modV, divV, powV, negV, lenV, intV, absI, enumV, iterV, PD.slV, boolV, truthV, ltD, revA, ltV, gtV, leV, geV, isV, isNone, Bool.false_xor, Bool.true_xor, Bool.not_true, Bool.not_false, Bool.and_true, Bool.true_and, Bool.and_false, Bool.false_and, decide_true, decide_false, decide_eq_true_eq, Bool.and_eq_true, if_true, if_false, reduceIte, Bool.false_eq_true, Str.empty_append, List.length_append, ite_true, ite_false, true_and, and_true, Int.cast_ofNat_Int, Nat.reduceAdd, Nat.reduceSub, Nat.reduceLT, Int.reduceLT, Int.reduceLE, Int.reduceToNat, Nat.lt_add_one])
local macro_rules
  | `(tactic| walk_at "g1") => `(tactic| simp only [sSeq, ssat_next, ssat_toS, ssat_nx, ssat_rt, ssat_bk, ssat_ct, ssat_bad, ssat_ite, if_false_right, sat_ok, sat_bad, sat_exc, sat_bind, sat_ite, sPutO, sPutI, sPutD, eD, ownD, sAsg, fE, sIf, sNx, sRet, sDrop, sOwn, sApp, sExt, sPar, sFor, e1, e2, eV, eC, eA, eA1, aC, aN, eSl, oN, oS, eP, eM1, eIf, eCall, eChain, eJ, jC, jN, bB, bTr, bAnd, bOr, bNot, eAnd, eOr, eNot, bYes, iSeq, iA, ofG, ofO, fmtV, strV, tupleV, listV, iaddV, PD.eq_int, PD.eq_str, eq_self, gSet, ggNil, ggCons, ggTup, mkTup, mkLst, mkObj, asDs, asD, ownL,
      List.map_cons, List.map_nil, List.cons_append, List.nil_append, List.length_cons, List.length_nil, List.length_set, List.replicate, List.getElem?_cons_succ, List.getElem?_cons_zero, List.getElem?_nil, List.set_cons_succ, List.set_cons_zero, List.all_cons, List.all_nil, setAll, ixT0, ixT1, ixT2, ixL0, ixL1, ixL2, Option.map_some, Option.map_none, Option.bind_some, Option.bind_none,
      addV, subV, mulV, modV, divV, powV, negV, lenV, intV, absI, enumV, iterV, PD.slV, boolV, truthV, ltD, revA, ltV, gtV, leV, geV, isV, isNone, Bool.false_xor, Bool.true_xor, Bool.not_true, Bool.not_false, Bool.and_true, Bool.true_and, Bool.and_false, Bool.false_and, decide_true, decide_false, decide_eq_true_eq, Bool.and_eq_true, if_true, if_false, reduceIte, Bool.false_eq_true, Str.empty_append, List.length_append, ite_true, ite_false, true_and, and_true, Int.cast_ofNat_Int, Nat.reduceAdd, Nat.reduceSub, Nat.reduceLT, Int.reduceLT, Int.reduceSub, Int.reduceAdd, Int.reduceNeg, Int.reduceLE, Int.reduceToNat, Nat.lt_add_one])
local macro_rules
  | `(tactic| walk_at "g") => `(tactic| simp only [sSeq, ssat_next, ssat_toS, ssat_nx, ssat_rt, ssat_bk, ssat_ct, ssat_bad, ssat_ite, if_false_right, sat_ok, sat_bad, sat_exc, sat_bind, sat_ite, sPutO, sPutI, sPutD, eD, ownD, sAsg, fE, sIf, sNx, sRet, sDrop, sOwn, sApp, sExt, sPar, sFor, e1, e2, eV, eC, eA, eA1, aC, aN, eSl, oN, oS, eP, eM1, eIf, eCall, eChain, eJ, jC, jN, bB, bTr, bAnd, bOr, bNot, eAnd, eOr, eNot, bYes, iSeq, iA, ofG, ofO, fmtV, strV, tupleV, listV, iaddV, PD.eq_int, PD.eq_str, eq_self, gSet, ggNil, ggCons, ggTup, mkTup, mkLst, mkObj, asDs, asD, ownL,
      List.map_cons, List.map_nil, List.cons_append, List.nil_append, List.length_cons, List.length_nil, List.length_set, List.replicate, List.getElem?_cons_succ, List.getElem?_cons_zero, List.getElem?_nil, List.set_cons_succ, List.set_cons_zero, List.all_cons, List.all_nil, setAll, ixT0, ixT1, ixT2, ixL0, ixL1, ixL2, Option.map_some, Option.map_none, Option.bind_some, Option.bind_none,
      addV, subV, mulV, modV, divV, powV, negV, lenV, intV, absI, enumV, iterV, PD.slV, boolV, truthV, ltD, revA, ltV, gtV, leV, geV, isV, isNone, Bool.false_xor, Bool.true_xor, Bool.not_true, Bool.not_false, Bool.and_true, Bool.true_and, Bool.and_false, Bool.false_and, decide_true, decide_false, decide_eq_true_eq, Bool.and_eq_true, if_true, if_false, reduceIte, Bool.false_eq_true, Str.empty_append, List.length_append, ite_true, ite_false, true_and, and_true, Int.cast_ofNat_Int, Nat.reduceAdd, Nat.reduceSub, Nat.reduceLT, Int.reduceLT, Int.reduceSub, Int.reduceAdd, Int.reduceNeg, Int.reduceLE, Int.reduceToNat, Nat.lt_add_one, beq_iff_eq, sizeLine_eq, Nat.reduceLeDiff, inV_tup, inV_lst, eqv_str, eqv_int, eqV_nilT, cutD_tail, false_and, and_false, or_true, true_or, or_false, false_or, ixT3, Bool.true_eq_false, Bool.or_eq_false_iff, decide_eq_false_iff_not, Int.not_le, Int.not_lt, beq_self_eq_true, Int.reduceBEq, Bool.not_eq_eq_eq_not, beq_eq_false_iff_ne, ne_eq, not_true_eq_false, not_false_eq_true, List.isEmpty_cons, List.isEmpty_nil, List.any_cons, List.any_nil, Bool.or_false, Bool.or_eq_true, isaV, PyData.isInt, PyData.isStr, PyData.isBool, PyData.isTuple, PyData.isList, PyData.isDict, m__law_maze_1_E, m__law_maze_3_E, m__law_maze_2_E, m__law_maze_4_E, m__law_maze_E])
local macro_rules
  | `(tactic| walk_at "gt") => `(tactic| try walk_at "go")
local macro_rules
  | `(tactic| walk_at "gq") => `(tactic| try walk_at "g0")
local macro_rules
  | `(tactic| walk_at "len") => `(tactic| (simp only [Str.length_append, PySem.ofString_length, len_nil, sizeLine_eq] at *; omega))
local macro_rules
  | `(tactic| walk_at "fin") => `(tactic| ((repeat' apply And.intro) <;> first | assumption | exact True.intro | walk_at "len" | rfl))
local macro_rules
  | `(tactic| walk_at "start") => `(tactic| (rw [sat_body]; simp only [List.map_cons, List.map_nil, List.cons_append, List.nil_append, List.length_cons, List.length_nil, Nat.reduceAdd, Nat.reduceSub, List.replicate]))
local macro_rules
  | `(tactic| walk_at "wd") => `(tactic| first | assumption | exact Wd.none | exact Wd.bool | exact Wd.small (by decide) (by decide) | exact Wd.lit (by decide) | exact Wd.dict0 | exact Wd.tup Wds.nil | exact Wd.lst Wds.nil | (refine Wd.t1 (k := 2) (a := 990) ?_ (by decide) <;> walk_at "wd") | (refine Wd.t2 (k := 2) (a := 990) (b := 990) ?_ ?_ (by decide) <;> walk_at "wd") | (refine Wd.t3 (k := 2) (a := 990) (b := 990) (c := 990) ?_ ?_ ?_ (by decide) <;> walk_at "wd") | (refine Wd.t4 (k := 2) (a := 990) (b := 990) (c := 990) (e := 990) ?_ ?_ ?_ ?_ (by decide) <;> walk_at "wd") | (refine Wd.t1 (k := 1) (a := 240) ?_ (by decide) <;> walk_at "wd") | (refine Wd.t2 (k := 1) (a := 240) (b := 240) ?_ ?_ (by decide) <;> walk_at "wd") | (refine Wd.t3 (k := 1) (a := 240) (b := 240) (c := 240) ?_ ?_ ?_ (by decide) <;> walk_at "wd") | (refine Wd.t4 (k := 1) (a := 240) (b := 240) (c := 240) (e := 240) ?_ ?_ ?_ ?_ (by decide) <;> walk_at "wd") | (refine Wd.t1 (k := 0) (a := 55) ?_ (by decide) <;> walk_at "wd") | (refine Wd.t2 (k := 0) (a := 55) (b := 55) ?_ ?_ (by decide) <;> walk_at "wd") | (refine Wd.t3 (k := 0) (a := 55) (b := 55) (c := 55) ?_ ?_ ?_ (by decide) <;> walk_at "wd") | (refine Wd.t4 (k := 0) (a := 55) (b := 55) (c := 55) (e := 55) ?_ ?_ ?_ ?_ (by decide) <;> walk_at "wd"))
def allShapes (signs : List Str) : List (Str × Int) := signs.flatMap fun s => [(s, 0), (s, 1), (s, 2)]
theorem allShapes_kd {signs : List Str} (h : ∀ s ∈ signs, Sn s) (ne : signs ≠ []) (l : signs.length ≤ 300) : Kd (allShapes signs) where
  sn := fun p hp => by
    obtain ⟨s, hs, e⟩ := List.mem_flatMap.mp hp
    simp only [List.mem_cons, List.not_mem_nil, or_false] at e
    rcases e with rfl | rfl | rfl <;> exact h _ hs
  rg := fun p hp => by
    obtain ⟨s, hs, e⟩ := List.mem_flatMap.mp hp
    simp only [List.mem_cons, List.not_mem_nil, or_false] at e
    rcases e with rfl | rfl | rfl <;> (constructor <;> simp)
  end_ := by
    obtain ⟨s, hs⟩ := List.exists_mem_of_ne_nil signs ne
    exact ⟨(s, 0), List.mem_flatMap.mpr ⟨s, hs, by simp⟩, rfl⟩
  len := by
    have : (allShapes signs).length = signs.length * 3 := by
      unfold allShapes
      clear h ne l
      induction signs with
      | nil => rfl
      | cons s r ih => rw [List.flatMap_cons, List.length_append, ih, List.length_cons]; simp; omega
    omega
theorem maze_ok {rest : Store} {n most : Int} {S : Store} {signs : List Str} (D : Deck rest n S) (hn : n ≤ 800000000) (hs : ∀ s ∈ signs, Sn s) (ne : signs ≠ []) (l : signs.length ≤ 300) (m0 : 1 ≤ most) (m1 : most ≤ 100000) :
    (F__law_maze [.obj 1, .d (.list (signs.map .str)), .d (.int most)] S).sat (fun v S' => ∃ m : Maze, v = .d m.d ∧ m.Of (allShapes signs) ∧ (m.size : Int) ≤ most ∧ Deck rest (n + 250) S') NoX := by
  have sz : sizeLine = 16777216 := sizeLine_eq
  have kd := allShapes_kd hs ne l
  have kl := kd.len
  unfold F__law_maze
  walk_at "start"
  simp only [m__law_maze, m__law_maze_1]
  walk_at "go"
  simp only [m__law_maze_2]
  walk_at "go"
  refine ⟨Nat.zero_le _, ?_⟩
  refine ssat_for (fun j fr S => ∃ x, fr = [some (.obj 1), some (.d (.list (signs.map .str))), some (.d (.int most)), some (.d (.list ((allShapes (signs.take j)).map pd))), x, none] ∧ Deck rest n S) 0 ⟨_, rfl, D⟩ (fun j x fr S hx ⟨y, e, D⟩ => ?_) fun fr S ⟨y, e, D⟩ => ?_
  · subst e
    rw [Nat.zero_add]
    rw [List.map_map, List.getElem?_map] at hx
    obtain ⟨s, hs', rfl⟩ := Option.map_eq_some_iff.mp hx
    refine ⟨_, rfl, ?_⟩
    simp only [m__law_maze_3, Function.comp]
    walk_at "go"
    simp only [eLc]
    walk_at "go"
    rw [rng1_ok (by decide) (by decide)]
    walk_at "go"
    rw [show rngL 0 3 = (([0, 1, 2] : List Int).map PyData.int).map .d from rfl, comp_map (f := fun k : Int => pd (s, k)) (fun k hk => ⟨_, rfl, by
      refine sat_eq ?_
      simp only [wipeF, pd]
      walk_at "go"
      omega⟩) (by simp; omega)]
    walk_at "go"
    have e : (allShapes (signs.take j)).map pd ++ [pd (s, 0), pd (s, 1), pd (s, 2)] = (allShapes (signs.take (j + 1))).map pd := by
      rw [List.take_succ, hs', allShapes, allShapes, List.flatMap_append, List.map_append]
      rfl
    have tl : (allShapes (signs.take j)).length ≤ 1000 := by
      have : (allShapes (signs.take j)).length ≤ (allShapes signs).length := by
        unfold allShapes
        rw [List.length_flatMap, List.length_flatMap]
        conv => rhs; rw [← List.take_append_drop j signs]
        rw [List.map_append, List.sum_append]
        omega
      omega
    refine ⟨by simp only [List.length_map]; omega, ?_⟩
    rw [e]
    exact ⟨_, rfl, D⟩
  · subst e
    rw [Nat.zero_add, List.length_map, List.length_map, List.take_length]
    simp only [m__law_maze_4]
    walk_at "g0"
    refine (draw_ok D (by omega) (by decide) (by decide)).on fun v S ⟨q, e, q0, q1, D⟩ => ?_
    subst e
    walk_at "g0"
    refine (mazes_ok (ps := allShapes signs) kd (.inl rfl) D (by omega) (by omega) (by omega) m0 m1).on fun v S ⟨ms, e, mne, ml, ma, D⟩ => ?_
    subst e
    rcases List.eq_nil_or_concat ms with rfl | ⟨ms', m, rfl⟩
    · exact absurd rfl mne
    · rw [List.concat_eq_append] at *
      rw [List.map_append, List.map_cons, List.map_nil, ix_last]
      walk_at "g0"
      obtain ⟨a, b⟩ := ma m (by simp)
      exact ⟨m, rfl, a, b, D.mono (by omega)⟩
end Wk
namespace Wk
open PySem PySem.Spec PyProof.Rows L2 PD
def m__law_robot_1 : SM := sPar [4, 5] 11 (aC (e2 addV (eC (.int 1)) (eCall 2 F__law_draw (aC (eV 0) (aC (eV 3) (aN))))) (aC (eA mkLst (aN)) (aN)))
def m__law_robot_3 : SM := sOwn 7 11 (eA mkLst (aN))
def m__law_robot_5 : SM := sAsg (gSet 9) (fE (eA mkTup (aC (eC (.str "go")) (aC (eCall 2 F__law_draw (aC (eV 0) (aC (eC (.int 3)) (aN)))) (aC (eCall 2 F__law_draw (aC (eV 0) (aC (eV 4) (aN)))) (aN))))))
def m__law_robot_7 : SM := sAsg (gSet 9) (fE (eA mkTup (aC (eC (.str "stop")) (aC (eCall 2 F__law_one (aC (eV 0) (aC (eV 2) (aN)))) (aN)))))
def m__law_robot_6 : SM := sIf (bB (e2 (eqV false) (eCall 2 F__law_draw (aC (eV 0) (aC (eC (.int 5)) (aN)))) (eC (.int 0)))) (m__law_robot_7) (sNx)
def m__law_robot_8 : SM := sAsg (gSet 10) (fE (eIf (bB (e2 (eqV false) (eCall 2 F__law_draw (aC (eV 0) (aC (eC (.int 2)) (aN)))) (eC (.int 0)))) (eC .none) (eCall 2 F__law_one (aC (eV 0) (aC (eV 1) (aN))))))
def m__law_robot_9 : SM := sApp 7 (eA mkTup (aC (eV 10) (aC (eCall 2 F__law_one (aC (eV 0) (aC (eA mkLst (aC (eC .none) (aC (eC .none) (aC (eC (.int 1)) (aC (eC (.int 2)) (aC (eC (.int 3)) (aN))))))) (aN)))) (aC (eV 9) (aN)))))
def m__law_robot_4 : SM := sFor (gSet 8) (iA rng1V (aC (eCall 2 F__law_draw (aC (eV 0) (aC (eC (.int 6)) (aN)))) (aN)))
    (sSeq m__law_robot_5 (sSeq m__law_robot_6 (sSeq m__law_robot_8 m__law_robot_9)))
def m__law_robot_11 : SM := sApp 7 (eA mkTup (aC (eC .none) (aC (eC .none) (aC (eA mkTup (aC (eC (.str "go")) (aC (e2 addV (eC (.int 1)) (eCall 2 F__law_draw (aC (eV 0) (aC (eC (.int 2)) (aN))))) (aC (eCall 2 F__law_draw (aC (eV 0) (aC (eV 4) (aN)))) (aN))))) (aN)))))
def m__law_robot_10 : SM := sIf (bB (e2 gtV (eCall 2 F__law_draw (aC (eV 0) (aC (eC (.int 5)) (aN)))) (eC (.int 0)))) (m__law_robot_11) (sNx)
def m__law_robot_12 : SM := sApp 5 (eA1 tupleV (eP 7))
def m__law_robot_2 : SM := sFor (gSet 6) (iA rng1V (aC (eV 4) (aN)))
    (sSeq m__law_robot_3 (sSeq m__law_robot_4 (sSeq m__law_robot_10 m__law_robot_12)))
def m__law_robot_13 : SM := sRet (eA1 tupleV (eP 5))
def m__law_robot : SM := sSeq m__law_robot_1 (sSeq m__law_robot_2 m__law_robot_13)
theorem m__law_robot_1_E {fr : Fr} {S : Store} : m__law_robot_1 fr S = (sPar [4, 5] 11 (aC (e2 addV (eC (.int 1)) (eCall 2 F__law_draw (aC (eV 0) (aC (eV 3) (aN))))) (aC (eA mkLst (aN)) (aN)))) fr S := rfl
theorem m__law_robot_3_E {fr : Fr} {S : Store} : m__law_robot_3 fr S = (sOwn 7 11 (eA mkLst (aN))) fr S := rfl
theorem m__law_robot_5_E {fr : Fr} {S : Store} : m__law_robot_5 fr S = (sAsg (gSet 9) (fE (eA mkTup (aC (eC (.str "go")) (aC (eCall 2 F__law_draw (aC (eV 0) (aC (eC (.int 3)) (aN)))) (aC (eCall 2 F__law_draw (aC (eV 0) (aC (eV 4) (aN)))) (aN))))))) fr S := rfl
theorem m__law_robot_7_E {fr : Fr} {S : Store} : m__law_robot_7 fr S = (sAsg (gSet 9) (fE (eA mkTup (aC (eC (.str "stop")) (aC (eCall 2 F__law_one (aC (eV 0) (aC (eV 2) (aN)))) (aN)))))) fr S := rfl
theorem m__law_robot_6_E {fr : Fr} {S : Store} : m__law_robot_6 fr S = (sIf (bB (e2 (eqV false) (eCall 2 F__law_draw (aC (eV 0) (aC (eC (.int 5)) (aN)))) (eC (.int 0)))) (m__law_robot_7) (sNx)) fr S := rfl
theorem m__law_robot_8_E {fr : Fr} {S : Store} : m__law_robot_8 fr S = (sAsg (gSet 10) (fE (eIf (bB (e2 (eqV false) (eCall 2 F__law_draw (aC (eV 0) (aC (eC (.int 2)) (aN)))) (eC (.int 0)))) (eC .none) (eCall 2 F__law_one (aC (eV 0) (aC (eV 1) (aN))))))) fr S := rfl
theorem m__law_robot_9_E {fr : Fr} {S : Store} : m__law_robot_9 fr S = (sApp 7 (eA mkTup (aC (eV 10) (aC (eCall 2 F__law_one (aC (eV 0) (aC (eA mkLst (aC (eC .none) (aC (eC .none) (aC (eC (.int 1)) (aC (eC (.int 2)) (aC (eC (.int 3)) (aN))))))) (aN)))) (aC (eV 9) (aN)))))) fr S := rfl
theorem m__law_robot_4_E {fr : Fr} {S : Store} : m__law_robot_4 fr S = (sFor (gSet 8) (iA rng1V (aC (eCall 2 F__law_draw (aC (eV 0) (aC (eC (.int 6)) (aN)))) (aN)))
    (sSeq m__law_robot_5 (sSeq m__law_robot_6 (sSeq m__law_robot_8 m__law_robot_9)))) fr S := rfl
theorem m__law_robot_11_E {fr : Fr} {S : Store} : m__law_robot_11 fr S = (sApp 7 (eA mkTup (aC (eC .none) (aC (eC .none) (aC (eA mkTup (aC (eC (.str "go")) (aC (e2 addV (eC (.int 1)) (eCall 2 F__law_draw (aC (eV 0) (aC (eC (.int 2)) (aN))))) (aC (eCall 2 F__law_draw (aC (eV 0) (aC (eV 4) (aN)))) (aN))))) (aN)))))) fr S := rfl
theorem m__law_robot_10_E {fr : Fr} {S : Store} : m__law_robot_10 fr S = (sIf (bB (e2 gtV (eCall 2 F__law_draw (aC (eV 0) (aC (eC (.int 5)) (aN)))) (eC (.int 0)))) (m__law_robot_11) (sNx)) fr S := rfl
theorem m__law_robot_12_E {fr : Fr} {S : Store} : m__law_robot_12 fr S = (sApp 5 (eA1 tupleV (eP 7))) fr S := rfl
theorem m__law_robot_2_E {fr : Fr} {S : Store} : m__law_robot_2 fr S = (sFor (gSet 6) (iA rng1V (aC (eV 4) (aN)))
    (sSeq m__law_robot_3 (sSeq m__law_robot_4 (sSeq m__law_robot_10 m__law_robot_12)))) fr S := rfl
theorem m__law_robot_13_E {fr : Fr} {S : Store} : m__law_robot_13 fr S = (sRet (eA1 tupleV (eP 5))) fr S := rfl
theorem m__law_robot_E {fr : Fr} {S : Store} : m__law_robot fr S = (sSeq m__law_robot_1 (sSeq m__law_robot_2 m__law_robot_13)) fr S := rfl
def F__law_robot : FN := bodyF 11 m__law_robot
local macro_rules
  | `(tactic| walk_at "go") => `(tactic| simp only [sSeq, ssat_next, ssat_toS, ssat_nx, ssat_rt, ssat_bk, ssat_ct, ssat_bad, ssat_ite, if_false_right, sat_ok, sat_bad, sat_exc, sat_bind, sat_ite, sPutO, sPutI, sPutD, eD, ownD, sAsg, fE, sIf, sNx, sRet, sDrop, sOwn, sApp, sExt, sPar, sFor, e1, e2, eV, eC, eA, eA1, aC, aN, eSl, oN, oS, eP, eM1, eIf, eCall, eChain, eJ, jC, jN, bB, bTr, bAnd, bOr, bNot, eAnd, eOr, eNot, bYes, iSeq, iA, ofG, ofO, fmtV, strV, tupleV, listV, iaddV, PD.eq_int, PD.eq_str, eq_self, gSet, ggNil, ggCons, ggTup, mkTup, mkLst, mkObj, asDs, asD, ownL,
      List.map_cons, List.map_nil, List.cons_append, List.nil_append, List.length_cons, List.length_nil, List.length_set, List.replicate, List.getElem?_cons_succ, List.getElem?_cons_zero, List.getElem?_nil, List.set_cons_succ, List.set_cons_zero, List.all_cons, List.all_nil, setAll, Option.map_some, Option.map_none, Option.bind_some, Option.bind_none,
      ixV, addV, subV, mulV, modV, divV, powV, negV, lenV, intV, absI, enumV, iterV, PD.slV, boolV, truthV, ltD, revA, ltV, gtV, leV, geV, isV, isNone, L2.atI, ixN, Bool.false_xor, Bool.true_xor, Bool.not_true, Bool.not_false, Bool.and_true, Bool.true_and, Bool.and_false, Bool.false_and, decide_true, decide_false, decide_eq_true_eq, Bool.and_eq_true, if_true, if_false, reduceIte, Bool.false_eq_true, Str.empty_append, List.length_append, ite_true, ite_false, true_and, and_true, Int.cast_ofNat_Int, Nat.reduceAdd, Nat.reduceSub, Nat.reduceLT, Int.reduceLT, Int.reduceLE, Int.reduceToNat, Nat.lt_add_one])
local macro_rules
  | `(tactic| walk_at "g0") => `(tactic| simp only [sSeq, ssat_next, ssat_toS, ssat_nx, ssat_rt, ssat_bk, ssat_ct, ssat_bad, ssat_ite, if_false_right, sat_ok, sat_bad, sat_exc, sat_bind, sat_ite, sPutO, sPutI, sPutD, eD, ownD, sAsg, fE, sIf, sNx, sRet, sDrop, sOwn, sApp, sExt, sPar, sFor, e1, e2, eV, eC, eA, eA1, aC, aN, eSl, oN, oS, eP, eM1, eIf, eCall, eChain, eJ, jC, jN, bB, bTr, bAnd, bOr, bNot, eAnd, eOr, eNot, bYes, iSeq, iA, ofG, ofO, fmtV, strV, tupleV, listV, iaddV, PD.eq_int, PD.eq_str, eq_self, gSet, ggNil, ggCons, ggTup, mkTup, mkLst, mkObj, asDs, asD, ownL,
      List.map_cons, List.map_nil, List.cons_append, List.nil_append, List.length_cons, List.length_nil, List.length_set, List.replicate, List.getElem?_cons_succ, List.getElem?_cons_zero, List.getElem?_nil, List.set_cons_succ, List.set_cons_zero, List.all_cons, List.all_nil, setAll, ixT0, ixT1, ixT2, ixL0, ixL1, ixL2, Option.map_some, Option.map_none, Option.bind_some, Option.bind_none,
      addV, subV, mulV, modV, divV, powV, negV, lenV, intV, absI, enumV, iterV, PD.slV, boolV, truthV, ltD, revA, ltV, gtV, leV, geV, isV, isNone, Bool.false_xor, Bool.true_xor, Bool.not_true, Bool.not_false, Bool.and_true, Bool.true_and, Bool.and_false, Bool.false_and, decide_true, decide_false, decide_eq_true_eq, Bool.and_eq_true, if_true, if_false, reduceIte, Bool.false_eq_true, Str.empty_append, List.length_append, ite_true, ite_false, true_and, and_true, Int.cast_ofNat_Int, Nat.reduceAdd, Nat.reduceSub, Nat.reduceLT, Int.reduceLT, Int.reduceLE, Int.reduceToNat, Nat.lt_add_one])
local macro_rules
  | `(tactic| walk_at "g1") => `(tactic| simp only [sSeq, ssat_next, ssat_toS, ssat_nx, ssat_rt, ssat_bk, ssat_ct, ssat_bad, ssat_ite, if_false_right, sat_ok, sat_bad, sat_exc, sat_bind, sat_ite, sPutO, sPutI, sPutD, eD, ownD, sAsg, fE, sIf, sNx, sRet, sDrop, sOwn, sApp, sExt, sPar, sFor, e1, e2, eV, eC, eA, eA1, aC, aN, eSl, oN, oS, eP, eM1, eIf, eCall, eChain, eJ, jC, jN, bB, bTr, bAnd, bOr, bNot, eAnd, eOr, eNot, bYes, iSeq, iA, ofG, ofO, fmtV, strV, tupleV, listV, iaddV, PD.eq_int, PD.eq_str, eq_self, gSet, ggNil, ggCons, ggTup, mkTup, mkLst, mkObj, asDs, asD, ownL,
      List.map_cons, List.map_nil, List.cons_append, List.nil_append, List.length_cons, List.length_nil, List.length_set, List.replicate, List.getElem?_cons_succ, List.getElem?_cons_zero, List.getElem?_nil, List.set_cons_succ, List.set_cons_zero, List.all_cons, List.all_nil, setAll, ixT0, ixT1, ixT2, ixL0, ixL1, ixL2, Option.map_some, Option.map_none, Option.bind_some, Option.bind_none,
      addV, subV, mulV, modV, divV, powV, negV, lenV, intV, absI, enumV, iterV, PD.slV, boolV, truthV, ltD, revA, ltV, gtV, leV, geV, isV, isNone, Bool.false_xor, Bool.true_xor, Bool.not_true, Bool.not_false, Bool.and_true, Bool.true_and, Bool.and_false, Bool.false_and, decide_true, decide_false, decide_eq_true_eq, Bool.and_eq_true, if_true, if_false, reduceIte, Bool.false_eq_true, Str.empty_append, List.length_append, ite_true, ite_false, true_and, and_true, Int.cast_ofNat_Int, Nat.reduceAdd, Nat.reduceSub, Nat.reduceLT, Int.reduceLT, Int.reduceSub, Int.reduceAdd, Int.reduceNeg, Int.reduceLE, Int.reduceToNat, Nat.lt_add_one])
local macro_rules
  | `(tactic| walk_at "g") => `(tactic| simp only [sSeq, ssat_next, ssat_toS, ssat_nx, ssat_rt, ssat_bk, ssat_ct, ssat_bad, ssat_ite, if_false_right, sat_ok, sat_bad, sat_exc, sat_bind, sat_ite, sPutO, sPutI, sPutD, eD, ownD, sAsg, fE, sIf, sNx, sRet, sDrop, sOwn, sApp, sExt, sPar, sFor, e1, e2, eV, eC, eA, eA1, aC, aN, eSl, oN, oS, eP, eM1, eIf, eCall, eChain, eJ, jC, jN, bB, bTr, bAnd, bOr, bNot, eAnd, eOr, eNot, bYes, iSeq, iA, ofG, ofO, fmtV, strV, tupleV, listV, iaddV, PD.eq_int, PD.eq_str, eq_self, gSet, ggNil, ggCons, ggTup, mkTup, mkLst, mkObj, asDs, asD, ownL,
      List.map_cons, List.map_nil, List.cons_append, List.nil_append, List.length_cons, List.length_nil, List.length_set, List.replicate, List.getElem?_cons_succ, List.getElem?_cons_zero, List.getElem?_nil, List.set_cons_succ, List.set_cons_zero, List.all_cons, List.all_nil, setAll, ixT0, ixT1, ixT2, ixL0, ixL1, ixL2, Option.map_some, Option.map_none, Option.bind_some, Option.bind_none,
      addV, subV, mulV, modV, divV, powV, negV, lenV, intV, absI, enumV, iterV, PD.slV, boolV, truthV, ltD, revA, ltV, gtV, leV, geV, isV, isNone, Bool.false_xor, Bool.true_xor, Bool.not_true, Bool.not_false, Bool.and_true, Bool.true_and, Bool.and_false, Bool.false_and, decide_true, decide_false, decide_eq_true_eq, Bool.and_eq_true, if_true, if_false, reduceIte, Bool.false_eq_true, Str.empty_append, List.length_append, ite_true, ite_false, true_and, and_true, Int.cast_ofNat_Int, Nat.reduceAdd, Nat.reduceSub, Nat.reduceLT, Int.reduceLT, Int.reduceSub, Int.reduceAdd, Int.reduceNeg, Int.reduceLE, Int.reduceToNat, Nat.lt_add_one, beq_iff_eq, sizeLine_eq, Nat.reduceLeDiff, inV_tup, inV_lst, eqv_str, eqv_int, eqV_nilT, cutD_tail, false_and, and_false, or_true, true_or, or_false, false_or, ixT3, Bool.true_eq_false, Bool.or_eq_false_iff, decide_eq_false_iff_not, Int.not_le, Int.not_lt, beq_self_eq_true, Int.reduceBEq, Bool.not_eq_eq_eq_not, beq_eq_false_iff_ne, ne_eq, not_true_eq_false, not_false_eq_true, List.isEmpty_cons, List.isEmpty_nil, List.any_cons, List.any_nil, Bool.or_false, Bool.or_eq_true, isaV, PyData.isInt, PyData.isStr, PyData.isBool, PyData.isTuple, PyData.isList, PyData.isDict, m__law_robot_1_E, m__law_robot_3_E, m__law_robot_5_E, m__law_robot_7_E, m__law_robot_6_E, m__law_robot_8_E, m__law_robot_9_E, m__law_robot_4_E, m__law_robot_11_E, m__law_robot_10_E, m__law_robot_12_E, m__law_robot_2_E, m__law_robot_13_E, m__law_robot_E])
local macro_rules
  | `(tactic| walk_at "gt") => `(tactic| try walk_at "go")
local macro_rules
  | `(tactic| walk_at "gq") => `(tactic| try walk_at "g0")
local macro_rules
  | `(tactic| walk_at "len") => `(tactic| (simp only [Str.length_append, PySem.ofString_length, len_nil, sizeLine_eq] at *; omega))
local macro_rules
  | `(tactic| walk_at "fin") => `(tactic| ((repeat' apply And.intro) <;> first | assumption | exact True.intro | walk_at "len" | rfl))
local macro_rules
  | `(tactic| walk_at "start") => `(tactic| (rw [sat_body]; simp only [List.map_cons, List.map_nil, List.cons_append, List.nil_append, List.length_cons, List.length_nil, Nat.reduceAdd, Nat.reduceSub, List.replicate]))
local macro_rules
  | `(tactic| walk_at "wd") => `(tactic| first | assumption | exact Wd.none | exact Wd.bool | exact Wd.small (by decide) (by decide) | exact Wd.lit (by decide) | exact Wd.dict0 | exact Wd.tup Wds.nil | exact Wd.lst Wds.nil | (refine Wd.t1 (k := 2) (a := 990) ?_ (by decide) <;> walk_at "wd") | (refine Wd.t2 (k := 2) (a := 990) (b := 990) ?_ ?_ (by decide) <;> walk_at "wd") | (refine Wd.t3 (k := 2) (a := 990) (b := 990) (c := 990) ?_ ?_ ?_ (by decide) <;> walk_at "wd") | (refine Wd.t4 (k := 2) (a := 990) (b := 990) (c := 990) (e := 990) ?_ ?_ ?_ ?_ (by decide) <;> walk_at "wd") | (refine Wd.t1 (k := 1) (a := 240) ?_ (by decide) <;> walk_at "wd") | (refine Wd.t2 (k := 1) (a := 240) (b := 240) ?_ ?_ (by decide) <;> walk_at "wd") | (refine Wd.t3 (k := 1) (a := 240) (b := 240) (c := 240) ?_ ?_ ?_ (by decide) <;> walk_at "wd") | (refine Wd.t4 (k := 1) (a := 240) (b := 240) (c := 240) (e := 240) ?_ ?_ ?_ ?_ (by decide) <;> walk_at "wd") | (refine Wd.t1 (k := 0) (a := 55) ?_ (by decide) <;> walk_at "wd") | (refine Wd.t2 (k := 0) (a := 55) (b := 55) ?_ ?_ (by decide) <;> walk_at "wd") | (refine Wd.t3 (k := 0) (a := 55) (b := 55) (c := 55) ?_ ?_ ?_ (by decide) <;> walk_at "wd") | (refine Wd.t4 (k := 0) (a := 55) (b := 55) (c := 55) (e := 55) ?_ ?_ ?_ ?_ (by decide) <;> walk_at "wd"))
inductive DeedD (words : List PyData) (n : Int) : PyData → Prop
  | go {a b : Int} : 0 ≤ a → a ≤ 2 → 0 ≤ b → b < n → DeedD words n (.tuple [.str "go", .int a, .int b])
  | stop {w : PyData} : w ∈ words → DeedD words n (.tuple [.str "stop", w])
inductive SignD (signs : List PyData) : PyData → Prop
  | any : SignD signs .none
  | some {s : PyData} : s ∈ signs → SignD signs s
inductive DoorsD : PyData → Prop
  | any : DoorsD .none
  | some {k : Int} : 1 ≤ k → k ≤ 3 → DoorsD (.int k)
inductive RuleD (signs words : List PyData) (n : Int) : PyData → Prop
  | mk {a b c : PyData} : SignD signs a → DoorsD b → DeedD words n c → RuleD signs words n (.tuple [a, b, c])
inductive StateD (signs words : List PyData) (n : Int) : PyData → Prop
  | mk {rs : List PyData} : (∀ r ∈ rs, RuleD signs words n r) → rs.length ≤ 6 → StateD signs words n (.tuple rs)
theorem robot_ok {rest : Store} {n most : Int} {S : Store} {signs words : List PyData} (D : Deck rest n S) (hn : n ≤ 900000000) (h0 : 0 < most) (h1 : most ≤ 100) (hs : signs ≠ []) (hs2 : signs.length ≤ 1000) (hw : words ≠ []) (hw2 : words.length ≤ 1000) :
    (F__law_robot [.obj 1, .d (.list signs), .d (.list words), .d (.int most)] S).sat (fun v S' => ∃ ds, v = .d (.tuple ds) ∧ 1 ≤ ds.length ∧ (ds.length : Int) ≤ most ∧ (∀ d ∈ ds, StateD signs words ds.length d) ∧ Deck rest (n + 1 + 40 * most) S') NoX := by
  have sz : sizeLine = 16777216 := sizeLine_eq
  unfold F__law_robot
  walk_at "start"
  unfold m__law_robot
  refine seq_sat (fun fr S => ∃ many : Int, 1 ≤ many ∧ many ≤ most ∧ fr = [some (.obj 1), some (.d (.list signs)), some (.d (.list words)), some (.d (.int most)), some (.d (.int many)), some (.d (.list [])), none, none, none, none, none] ∧ Deck rest (n + 1) S) ?_ ?_
  · simp only [m__law_robot_1]
    walk_at "go"
    refine (draw_ok D (by omega) (by omega) (by omega)).on fun v S ⟨q, e, q0, q1, D⟩ => ?_
    subst e
    walk_at "go"
    exact ⟨by omega, _, by omega, by omega, rfl, D⟩
  rintro _ S ⟨many, m1, m4, rfl, D⟩
  refine seq_sat (fun fr S => ∃ ds x y z u w, (∀ d ∈ ds, StateD signs words many d) ∧ ds.length = many.toNat ∧ fr = [some (.obj 1), some (.d (.list signs)), some (.d (.list words)), some (.d (.int most)), some (.d (.int many)), some (.d (.list ds)), x, y, z, u, w] ∧ Deck rest (n + 1 + 40 * many) S) ?_ ?_
  · simp only [m__law_robot_2]
    walk_at "go"
    rw [rng1_ok (by omega) (by omega)]
    walk_at "go"
    refine ssat_rng (fun j fr S => ∃ ds x y z u w, (∀ d ∈ ds, StateD signs words many d) ∧ ds.length = j ∧ fr = [some (.obj 1), some (.d (.list signs)), some (.d (.list words)), some (.d (.int most)), some (.d (.int many)), some (.d (.list ds)), x, y, z, u, w] ∧ Deck rest (n + 1 + 40 * j) S)
      ⟨[], none, none, none, none, none, by simp, rfl, rfl, by simpa using D⟩ (fun j fr S hj ⟨ds, x, y, z, u, w, hd, hl, e, D⟩ => ?_) fun fr S ⟨ds, x, y, z, u, w, hd, hl, e, D⟩ => ⟨ds, x, y, z, u, w, hd, hl, e, D.mono (by omega)⟩
    subst e
    refine ⟨[some (.obj 1), some (.d (.list signs)), some (.d (.list words)), some (.d (.int most)), some (.d (.int many)), some (.d (.list ds)), some (.d (.int (j : Nat))), y, z, u, w], rfl, ?_⟩
    refine seq_sat (fun fr S => fr = [some (.obj 1), some (.d (.list signs)), some (.d (.list words)), some (.d (.int most)), some (.d (.int many)), some (.d (.list ds)), some (.d (.int (j : Nat))), some (.d (.list [])), z, u, w] ∧ Deck rest (n + 1 + 40 * j) S) ?_ ?_
    · simp only [m__law_robot_3]
      walk_at "go"
      exact ⟨by omega, D⟩
    rintro _ S ⟨rfl, D⟩
    refine seq_sat (fun fr S => ∃ rs z u w, (∀ r ∈ rs, RuleD signs words many r) ∧ rs.length ≤ 5 ∧ fr = [some (.obj 1), some (.d (.list signs)), some (.d (.list words)), some (.d (.int most)), some (.d (.int many)), some (.d (.list ds)), some (.d (.int (j : Nat))), some (.d (.list rs)), z, u, w] ∧ Deck rest (n + 1 + 40 * j + 36) S) ?_ ?_
    · simp only [m__law_robot_4]
      walk_at "go"
      refine (draw_ok D (by omega) (by decide) (by decide)).on fun v S ⟨q, e, q0, q1, D⟩ => ?_
      subst e
      rw [rng1_ok (by omega) (by omega)]
      walk_at "go"
      refine ssat_rng (fun l fr S => ∃ rs z u w, (∀ r ∈ rs, RuleD signs words many r) ∧ rs.length = l ∧ fr = [some (.obj 1), some (.d (.list signs)), some (.d (.list words)), some (.d (.int most)), some (.d (.int many)), some (.d (.list ds)), some (.d (.int (j : Nat))), some (.d (.list rs)), z, u, w] ∧ Deck rest (n + 1 + 40 * j + 1 + 7 * l) S)
        ⟨[], z, u, w, by simp, rfl, rfl, by simpa using D⟩ (fun l fr S hj2 ⟨rs, z, u, w, hp, hr, e, D⟩ => ?_) fun fr S ⟨rs, z, u, w, hp, hr, e, D⟩ => ⟨rs, z, u, w, hp, by omega, e, D.mono (by omega)⟩
      subst e
      refine ⟨[some (.obj 1), some (.d (.list signs)), some (.d (.list words)), some (.d (.int most)), some (.d (.int many)), some (.d (.list ds)), some (.d (.int (j : Nat))), some (.d (.list rs)), some (.d (.int (l : Nat))), u, w], rfl, ?_⟩
      refine seq_sat (fun fr S => ∃ dd, DeedD words many dd ∧ fr = [some (.obj 1), some (.d (.list signs)), some (.d (.list words)), some (.d (.int most)), some (.d (.int many)), some (.d (.list ds)), some (.d (.int (j : Nat))), some (.d (.list rs)), some (.d (.int (l : Nat))), some (.d dd), w] ∧ Deck rest (n + 1 + 40 * j + 1 + 7 * l + 2) S) ?_ ?_
      · simp only [m__law_robot_5]
        walk_at "go"
        refine (draw_ok D (by omega) (by decide) (by decide)).on fun v S ⟨q, e, q0, q1, D⟩ => ?_
        subst e
        walk_at "go"
        refine (draw_ok D (by omega) (by omega) (by omega)).on fun v S ⟨q, e, q0, q1, D⟩ => ?_
        subst e
        walk_at "go"
        exact ⟨by omega, _, .go (by omega) (by omega) (by omega) (by omega), rfl, D.mono (by omega)⟩
      rintro _ S ⟨dd, hdd, rfl, D⟩
      refine seq_sat (fun fr S => ∃ dd, DeedD words many dd ∧ fr = [some (.obj 1), some (.d (.list signs)), some (.d (.list words)), some (.d (.int most)), some (.d (.int many)), some (.d (.list ds)), some (.d (.int (j : Nat))), some (.d (.list rs)), some (.d (.int (l : Nat))), some (.d dd), w] ∧ Deck rest (n + 1 + 40 * j + 1 + 7 * l + 4) S) ?_ ?_
      · simp only [m__law_robot_6]
        walk_at "go"
        refine (draw_ok D (by omega) (by decide) (by decide)).on fun v S ⟨q, e, q0, q1, D⟩ => ?_
        subst e
        walk_at "go"
        by_cases h : (q == 0) = true
        · rw [if_pos h]
          simp only [m__law_robot_7]
          walk_at "go"
          refine (one_list D (by omega) hw (by omega)).on fun v S ⟨d, h1, e, D⟩ => ?_
          subst e
          walk_at "go"
          exact ⟨by omega, _, .stop h1, rfl, D.mono (by omega)⟩
        · rw [if_neg h]
          exact ⟨_, hdd, rfl, D.mono (by omega)⟩
      rintro _ S ⟨dd, hdd, rfl, D⟩
      refine seq_sat (fun fr S => ∃ sg, SignD signs sg ∧ fr = [some (.obj 1), some (.d (.list signs)), some (.d (.list words)), some (.d (.int most)), some (.d (.int many)), some (.d (.list ds)), some (.d (.int (j : Nat))), some (.d (.list rs)), some (.d (.int (l : Nat))), some (.d dd), some (.d sg)] ∧ Deck rest (n + 1 + 40 * j + 1 + 7 * l + 6) S) ?_ ?_
      · simp only [m__law_robot_8]
        walk_at "go"
        refine (draw_ok D (by omega) (by decide) (by decide)).on fun v S ⟨q, e, q0, q1, D⟩ => ?_
        subst e
        walk_at "go"
        by_cases h : (q == 0) = true
        · rw [if_pos h]
          exact ⟨_, .any, rfl, D.mono (by omega)⟩
        · rw [if_neg h]
          refine (one_list D (by omega) hs (by omega)).on fun v S ⟨d, h1, e, D⟩ => ?_
          subst e
          exact ⟨_, .some h1, rfl, D.mono (by omega)⟩
      rintro _ S ⟨sg, hsg, rfl, D⟩
      simp only [m__law_robot_9]
      walk_at "go"
      refine ⟨by omega, (one_list D (by omega) (by simp) (by simp)).on fun v S ⟨d2, h2, e, D⟩ => ?_⟩
      subst e
      have k2 : DoorsD d2 := by
        simp only [List.mem_cons, List.not_mem_nil, or_false] at h2
        rcases h2 with rfl | rfl | rfl | rfl | rfl
        · exact .any
        · exact .any
        · exact .some (by decide) (by decide)
        · exact .some (by decide) (by decide)
        · exact .some (by decide) (by decide)
      walk_at "go"
      refine ⟨by omega, by omega, rs ++ [.tuple [sg, d2, dd]], _, _, _, fun r h => ?_, by simp [hr], rfl, D.mono (by omega)⟩
      rcases List.mem_append.mp h with h | h
      · exact hp r h
      · rw [List.mem_singleton.mp h]
        exact .mk hsg k2 hdd
    rintro _ S ⟨rs, z, u, w, hp, hr, rfl, D⟩
    refine seq_sat (fun fr S => ∃ rs z u w, (∀ r ∈ rs, RuleD signs words many r) ∧ rs.length ≤ 6 ∧ fr = [some (.obj 1), some (.d (.list signs)), some (.d (.list words)), some (.d (.int most)), some (.d (.int many)), some (.d (.list ds)), some (.d (.int (j : Nat))), some (.d (.list rs)), z, u, w] ∧ Deck rest (n + 1 + 40 * j + 39) S) ?_ ?_
    · simp only [m__law_robot_10]
      walk_at "go"
      refine (draw_ok D (by omega) (by decide) (by decide)).on fun v S ⟨q, e, q0, q1, D⟩ => ?_
      subst e
      walk_at "go"
      by_cases h : 0 < q
      · rw [if_pos h]
        simp only [m__law_robot_11]
        walk_at "go"
        refine (draw_ok D (by omega) (by decide) (by decide)).on fun v S ⟨q, e, q0, q1, D⟩ => ?_
        subst e
        walk_at "go"
        refine (draw_ok D (by omega) (by omega) (by omega)).on fun v S ⟨q2, e, q2a, q2b, D⟩ => ?_
        subst e
        walk_at "go"
        refine ⟨by omega, by omega, by omega, rs ++ [.tuple [.none, .none, .tuple [.str "go", .int (1 + q), .int q2]]], _, _, _, fun r h => ?_, by simp; omega, rfl, D.mono (by omega)⟩
        rcases List.mem_append.mp h with h | h
        · exact hp r h
        · rw [List.mem_singleton.mp h]
          exact .mk .any .any (.go (by omega) (by omega) q2a q2b)
      · rw [if_neg h]
        exact ⟨rs, _, _, _, hp, by omega, rfl, D.mono (by omega)⟩
    rintro _ S ⟨rs, z, u, w, hp, hr, rfl, D⟩
    simp only [m__law_robot_12]
    walk_at "go"
    refine ⟨by omega, ds ++ [.tuple rs], _, _, _, _, _, fun d h => ?_, by simp [hl], rfl, D.mono (by omega)⟩
    rcases List.mem_append.mp h with h | h
    · exact hd d h
    · rw [List.mem_singleton.mp h]
      exact .mk hp hr
  rintro _ S ⟨ds, x, y, z, u, w, hd, hl, rfl, D⟩
  simp only [m__law_robot_13]
  walk_at "go"
  have e : (ds.length : Int) = many := by omega
  exact ⟨ds, rfl, by omega, by omega, by rw [e]; exact hd, D.mono (by omega)⟩
theorem rl_of {signs words : List PyData} {m : Nat} {d : PyData} (h : RuleD signs words (m : Nat) d) (hs : ∀ x ∈ signs, ∃ s, x = PyData.str s ∧ Tx 20 s) (hw : ∀ x ∈ words, ∃ s, x = PyData.str s ∧ Tx 20 s) : ∃ r : Rl, d = r.d ∧ r.Wf m := by
  obtain ⟨ha, hb, hc⟩ := h
  rename_i a b c
  obtain ⟨sg, rfl, h1⟩ : ∃ sg, a = optS sg ∧ ∀ s, sg = some s → Tx 20 s := by
    cases ha with
    | any => exact ⟨none, rfl, fun s e => by cases e⟩
    | some h =>
      obtain ⟨s, rfl, hs⟩ := hs _ h
      exact ⟨some s, rfl, fun t e => by cases e; exact hs⟩
  obtain ⟨dr, rfl, h2⟩ : ∃ dr, b = optI dr ∧ ∀ k, dr = some k → 1 ≤ k ∧ k ≤ 3 := by
    cases hb with
    | any => exact ⟨none, rfl, fun s e => by cases e⟩
    | some p q => exact ⟨some _, rfl, fun t e => by cases e; exact ⟨p, q⟩⟩
  obtain ⟨dd, rfl, h3⟩ : ∃ dd : Deed, c = dd.d ∧ dd.Wf m := by
    cases hc with
    | go p1 p2 p3 p4 => exact ⟨.go _ _, rfl, p1, p2, p3, p4⟩
    | stop h =>
      obtain ⟨s, rfl, hs⟩ := hw _ h
      exact ⟨.stop s, rfl, hs⟩
  exact ⟨⟨sg, dr, dd⟩, rfl, h1, h2, h3⟩
theorem rob_of {signs words ds : List PyData} (h : ∀ d ∈ ds, StateD signs words ds.length d) (l1 : 1 ≤ ds.length) (l2 : ds.length ≤ 100) (hs : ∀ x ∈ signs, ∃ s, x = PyData.str s ∧ Tx 20 s) (hw : ∀ x ∈ words, ∃ s, x = PyData.str s ∧ Tx 20 s) : ∃ R : Rob, RobWf R ∧ PyData.tuple ds = robD R ∧ R.length = ds.length := by
  obtain ⟨R, e, hr⟩ := map_of_all2 (f := stD) (P := fun rs => rs.length ≤ 6 ∧ ∀ r ∈ rs, r.Wf ds.length) (ds := ds) fun d hd => by
    obtain ⟨hr, hl⟩ := h d hd
    rename_i rs
    obtain ⟨qs, rfl, hq⟩ := map_of_all2 (f := Rl.d) (P := fun r => r.Wf ds.length) (ds := rs) fun d hd => rl_of (hr d hd) hs hw
    exact ⟨qs, rfl, by simpa using hl, hq⟩
  have el : R.length = ds.length := by rw [e, List.length_map]
  refine ⟨R, ⟨by omega, by omega, fun rs hrs => ?_⟩, by rw [robD, ← e], el⟩
  rw [el]
  exact hr rs hrs
end Wk
namespace Wk
open PySem PySem.Spec PyProof.Rows L2 PD
def top (i : Nat) : Stmt := PySem.Challenge.pw_anymaze_k40_whole_walks_renamed.main.body.getD i (.Pass ⟨0, 0, 0, 0⟩)
abbrev s_behind_doors : Stmt := top 1
abbrev N_behind_doors : List Str := ["path", "branches", "at"]
abbrev s_room_paths : Stmt := top 2
abbrev N_room_paths : List Str := ["maze", "left", "found", "path", "branch"]
abbrev s_rule_for : Stmt := top 7
abbrev N_rule_for : List Str := ["robot", "state", "sign", "doors", "index", "rule"]
abbrev s_deed_by : Stmt := top 8
abbrev N_deed_by : List Str := ["robot", "state", "rule"]
abbrev s_deed_at : Stmt := top 9
abbrev N_deed_at : List Str := ["robot", "state", "sign", "doors"]
abbrev s_walk : Stmt := top 11
abbrev N_walk : List Str := ["maze", "robot", "rooms", "stand", "stands", "seen", "path", "door", "state", "sign", "doors", "deed", "out", "branch"]
abbrev s__law_deck : Stmt := top 13
abbrev N__law_deck : List Str := ["_law_script", "_law_cell"]
abbrev s__law_draw : Stmt := top 14
abbrev N__law_draw : List Str := ["_law_deck_here", "_law_many", "_law_cell", "_law_at", "_law_mixed"]
abbrev s__law_one : Stmt := top 15
abbrev N__law_one : List Str := ["_law_deck_here", "_law_items"]
abbrev s__law_signs : Stmt := top 16
abbrev N__law_signs : List Str := ["_law_deck_here", "_law_many", "_law_letters", "_law_left", "_law_right", "_law_k"]
abbrev s__law_mazes : Stmt := top 17
abbrev N__law_mazes : List Str := ["_law_deck_here", "_law_kind", "_law_many", "_law_most", "_law_found", "_law_sizes", "_law_k", "_law_sign", "_law_count", "_law_parts", "_law_size", "_law_j", "_law_part"]
abbrev s__law_maze : Stmt := top 18
abbrev N__law_maze : List Str := ["_law_deck_here", "_law_signs_here", "_law_most", "_law_shapes", "_law_sign", "_law_count"]
abbrev s__law_robot : Stmt := top 19
abbrev N__law_robot : List Str := ["_law_deck_here", "_law_signs_here", "_law_words", "_law_most", "_law_states", "_law_robot_here", "_law_k", "_law_rules", "_law_j", "_law_deed", "_law_sign"]
abbrev s__law_renamed : Stmt := top 20
abbrev N__law_renamed : List Str := ["_law_maze_here", "_law_names", "_law_branch"]
abbrev s__law_turned : Stmt := top 21
abbrev N__law_turned : List Str := ["_law_deck_here", "_law_robot_here", "_law_names", "_law_words", "_law_places_here", "_law_found", "_law_state", "_law_rules", "_law_sign", "_law_doors", "_law_deed", "_law_new"]
abbrev s__law_places : Stmt := top 22
abbrev N__law_places : List Str := ["_law_deck_here", "_law_many", "_law_left", "_law_found"]
abbrev s_law : Stmt := top 23
abbrev N_law : List Str := ["_law_script", "_law_deck_here", "_law_turn", "_law_signs_here", "_law_maze_here", "_law_robot_here", "_law_names", "_law_words", "_law_places_here", "_law_told", "_law_stands", "_law_due", "_law_found", "_law_k", "_law_sign", "_law_path", "_law_door", "_law_state"]
def m__law_renamed_1_ (F__law_renamed_ : FN) : SM := sRet (eA mkTup (aC (e2 ixKV (eV 1) (e2 ixV (eV 0) (eC (.int 0)))) (aC (eA1 tupleV (eLc (iSeq (e2 ixV (eV 0) (eC (.int 1)))) (gSet 2) (bYes) (eCall 2 F__law_renamed_ (aC (eV 2) (aC (eV 1) (aN)))) [2])) (aN))))
def m__law_renamed_ (F__law_renamed_ : FN) : SM := (m__law_renamed_1_ F__law_renamed_)
theorem m__law_renamed_1_E {F__law_renamed_ : FN} {fr : Fr} {S : Store} : m__law_renamed_1_ F__law_renamed_ fr S = (sRet (eA mkTup (aC (e2 ixKV (eV 1) (e2 ixV (eV 0) (eC (.int 0)))) (aC (eA1 tupleV (eLc (iSeq (e2 ixV (eV 0) (eC (.int 1)))) (gSet 2) (bYes) (eCall 2 F__law_renamed_ (aC (eV 2) (aC (eV 1) (aN)))) [2])) (aN))))) fr S := rfl
theorem m__law_renamed_E {F__law_renamed_ : FN} {fr : Fr} {S : Store} : m__law_renamed_ F__law_renamed_ fr S = ((m__law_renamed_1_ F__law_renamed_)) fr S := rfl
def F__law_renamed : Nat → FN
  | 0 => fun _ _ => .bad
  | n + 1 => bodyF 3 (m__law_renamed_ (F__law_renamed n))
def m__law_turned_1 : SM := sOwn 5 12 (e2 repL (eA mkLst (aC (eA mkTup (aN)) (aN))) (eA1 lenV (eV 1)))
def m__law_turned_3 : SM := sOwn 7 12 (eA mkLst (aN))
def m__law_turned_5 : SM := sAsg (gSet 11) (fE (eIf (bB (e2 (eqV false) (e2 ixV (eV 10) (eC (.int 0))) (eC (.str "stop")))) (eA mkTup (aC (eC (.str "stop")) (aC (e2 ixKV (eV 3) (e2 ixV (eV 10) (eC (.int 1)))) (aN)))) (eA mkTup (aC (eC (.str "go")) (aC (e2 ixV (eV 10) (eC (.int 1))) (aC (e2 ixV (eV 4) (e2 ixV (eV 10) (eC (.int 2)))) (aN)))))))
def m__law_turned_6 : SM := sApp 7 (eA mkTup (aC (eIf (bB (e2 (isV false) (eV 8) (eC .none))) (eC .none) (e2 ixKV (eV 2) (eV 8))) (aC (eV 9) (aC (eV 11) (aN)))))
def m__law_turned_8 : SM := sApp 7 (eA mkTup (aC (e2 ixV (e2 ixV (eP 7) (e1 negV (eC (.int 1)))) (eC (.int 0))) (aC (e2 ixV (e2 ixV (eP 7) (e1 negV (eC (.int 1)))) (eC (.int 1))) (aC (eA mkTup (aC (eC (.str "stop")) (aC (eC (.str "never")) (aN)))) (aN)))))
def m__law_turned_7 : SM := sIf (bAnd (bB (e2 (eqV false) (eCall 2 F__law_draw (aC (eV 0) (aC (eC (.int 3)) (aN)))) (eC (.int 0)))) (bB (e2 ltD (eA1 lenV (e2 ixV (eV 1) (eV 6))) (eC (.int 4))))) (m__law_turned_8) (sNx)
def m__law_turned_4 : SM := sFor (ggTup 3 (ggCons (gSet 8) (ggCons (gSet 9) (ggCons (gSet 10) (ggNil))))) (iSeq (e2 ixV (eV 1) (eV 6)))
    (sSeq m__law_turned_5 (sSeq m__law_turned_6 m__law_turned_7))
def m__law_turned_9 : SM := sPutI 5 (eSl (eA1 tupleV (eP 7)) (oN) (oS (eC (.int 6)))) (e2 ixV (eV 4) (eV 6))
def m__law_turned_2 : SM := sFor (gSet 6) (iA rng1V (aC (eA1 lenV (eV 1)) (aN)))
    (sSeq m__law_turned_3 (sSeq m__law_turned_4 m__law_turned_9))
def m__law_turned_10 : SM := sRet (eA1 tupleV (eP 5))
def m__law_turned : SM := sSeq m__law_turned_1 (sSeq m__law_turned_2 m__law_turned_10)
theorem m__law_turned_1_E {fr : Fr} {S : Store} : m__law_turned_1 fr S = (sOwn 5 12 (e2 repL (eA mkLst (aC (eA mkTup (aN)) (aN))) (eA1 lenV (eV 1)))) fr S := rfl
theorem m__law_turned_3_E {fr : Fr} {S : Store} : m__law_turned_3 fr S = (sOwn 7 12 (eA mkLst (aN))) fr S := rfl
theorem m__law_turned_5_E {fr : Fr} {S : Store} : m__law_turned_5 fr S = (sAsg (gSet 11) (fE (eIf (bB (e2 (eqV false) (e2 ixV (eV 10) (eC (.int 0))) (eC (.str "stop")))) (eA mkTup (aC (eC (.str "stop")) (aC (e2 ixKV (eV 3) (e2 ixV (eV 10) (eC (.int 1)))) (aN)))) (eA mkTup (aC (eC (.str "go")) (aC (e2 ixV (eV 10) (eC (.int 1))) (aC (e2 ixV (eV 4) (e2 ixV (eV 10) (eC (.int 2)))) (aN)))))))) fr S := rfl
theorem m__law_turned_6_E {fr : Fr} {S : Store} : m__law_turned_6 fr S = (sApp 7 (eA mkTup (aC (eIf (bB (e2 (isV false) (eV 8) (eC .none))) (eC .none) (e2 ixKV (eV 2) (eV 8))) (aC (eV 9) (aC (eV 11) (aN)))))) fr S := rfl
theorem m__law_turned_8_E {fr : Fr} {S : Store} : m__law_turned_8 fr S = (sApp 7 (eA mkTup (aC (e2 ixV (e2 ixV (eP 7) (e1 negV (eC (.int 1)))) (eC (.int 0))) (aC (e2 ixV (e2 ixV (eP 7) (e1 negV (eC (.int 1)))) (eC (.int 1))) (aC (eA mkTup (aC (eC (.str "stop")) (aC (eC (.str "never")) (aN)))) (aN)))))) fr S := rfl
theorem m__law_turned_7_E {fr : Fr} {S : Store} : m__law_turned_7 fr S = (sIf (bAnd (bB (e2 (eqV false) (eCall 2 F__law_draw (aC (eV 0) (aC (eC (.int 3)) (aN)))) (eC (.int 0)))) (bB (e2 ltD (eA1 lenV (e2 ixV (eV 1) (eV 6))) (eC (.int 4))))) (m__law_turned_8) (sNx)) fr S := rfl
theorem m__law_turned_4_E {fr : Fr} {S : Store} : m__law_turned_4 fr S = (sFor (ggTup 3 (ggCons (gSet 8) (ggCons (gSet 9) (ggCons (gSet 10) (ggNil))))) (iSeq (e2 ixV (eV 1) (eV 6)))
    (sSeq m__law_turned_5 (sSeq m__law_turned_6 m__law_turned_7))) fr S := rfl
theorem m__law_turned_9_E {fr : Fr} {S : Store} : m__law_turned_9 fr S = (sPutI 5 (eSl (eA1 tupleV (eP 7)) (oN) (oS (eC (.int 6)))) (e2 ixV (eV 4) (eV 6))) fr S := rfl
theorem m__law_turned_2_E {fr : Fr} {S : Store} : m__law_turned_2 fr S = (sFor (gSet 6) (iA rng1V (aC (eA1 lenV (eV 1)) (aN)))
    (sSeq m__law_turned_3 (sSeq m__law_turned_4 m__law_turned_9))) fr S := rfl
theorem m__law_turned_10_E {fr : Fr} {S : Store} : m__law_turned_10 fr S = (sRet (eA1 tupleV (eP 5))) fr S := rfl
theorem m__law_turned_E {fr : Fr} {S : Store} : m__law_turned fr S = (sSeq m__law_turned_1 (sSeq m__law_turned_2 m__law_turned_10)) fr S := rfl
def F__law_turned : FN := bodyF 12 m__law_turned
def m__law_places_1 : SM := sPar [2, 3] 4 (aC (e2 lstRgV (eC (.int 1)) (eV 1)) (aC (eA mkLst (aC (eC (.int 0)) (aN))) (aN)))
def m__law_places_3 : SM := sAppF 3 (fPopAt 2 (eCall 2 F__law_draw (aC (eV 0) (aC (eA1 lenV (eP 2)) (aN)))))
def m__law_places_2 : SM := sWhile (bB (e2 (eqV true) (eP 2) (eA mkLst (aN)))) (m__law_places_3)
def m__law_places_4 : SM := sRet (eV 3)
def m__law_places : SM := sSeq m__law_places_1 (sSeq m__law_places_2 m__law_places_4)
theorem m__law_places_1_E {fr : Fr} {S : Store} : m__law_places_1 fr S = (sPar [2, 3] 4 (aC (e2 lstRgV (eC (.int 1)) (eV 1)) (aC (eA mkLst (aC (eC (.int 0)) (aN))) (aN)))) fr S := rfl
theorem m__law_places_3_E {fr : Fr} {S : Store} : m__law_places_3 fr S = (sAppF 3 (fPopAt 2 (eCall 2 F__law_draw (aC (eV 0) (aC (eA1 lenV (eP 2)) (aN)))))) fr S := rfl
theorem m__law_places_2_E {fr : Fr} {S : Store} : m__law_places_2 fr S = (sWhile (bB (e2 (eqV true) (eP 2) (eA mkLst (aN)))) (m__law_places_3)) fr S := rfl
theorem m__law_places_4_E {fr : Fr} {S : Store} : m__law_places_4 fr S = (sRet (eV 3)) fr S := rfl
theorem m__law_places_E {fr : Fr} {S : Store} : m__law_places fr S = (sSeq m__law_places_1 (sSeq m__law_places_2 m__law_places_4)) fr S := rfl
def F__law_places : FN := bodyF 4 m__law_places
def m_law_1 : SM := sAsg (gSet 1) (fE (eCall 1 F__law_deck (aC (eV 0) (aN))))
def m_law_3 : SM := sAsg (gSet 3) (fE (eCall 2 F__law_signs (aC (eV 1) (aC (eC (.int 3)) (aN)))))
def m_law_4 : SM := sPar [4, 5] 18 (aC (eCall 3 F__law_maze (aC (eV 1) (aC (eV 3) (aC (eC (.int 60)) (aN))))) (aC (eCall 4 F__law_robot (aC (eV 1) (aC (eV 3) (aC (eA mkLst (aC (eC (.str "aha")) (aC (eC (.str "far")) (aN)))) (aC (eC (.int 4)) (aN)))))) (aN)))
def m_law_5 : SM := sAsg (gSet 6) (fE (eA1 dictLV (eLc (iA enumV (aC (e1 revA (eCall 2 F__law_signs (aC (eV 1) (aC (eC (.int 3)) (aN))))) (aN))) (ggTup 2 (ggCons (gSet 13) (ggCons (gSet 14) (ggNil)))) (bYes) (eA mkTup (aC (e2 ixV (eV 3) (eV 13)) (aC (eV 14) (aN)))) [13, 14])))
def m_law_6 : SM := sAsg (gSet 7) (fE (eCall 2 F__law_one (aC (eV 1) (aC (eA mkLst (aC (eA mkLst (aC (eC (.str "far")) (aC (eC (.str "aha")) (aN)))) (aC (eA mkLst (aC (eC (.str "b")) (aC (eC (.str "aha")) (aN)))) (aC (eA mkLst (aC (eC (.str "aha")) (aC (eC (.str "ffff")) (aN)))) (aN))))) (aN)))))
def m_law_7 : SM := sAsg (gSet 7) (fE (eDict2 (eC (.str "aha")) (e2 ixV (eV 7) (eC (.int 0))) (eC (.str "far")) (e2 ixV (eV 7) (eC (.int 1)))))
def m_law_8 : SM := sAsg (gSet 8) (fE (eCall 2 F__law_places (aC (eV 1) (aC (eA1 lenV (eV 5)) (aN)))))
def m_law_9 : SM := sAsg (ggTup 2 (ggCons (gSet 9) (ggCons (gSet 10) (ggNil)))) (fE (eCall 2 F_walk (aC (eV 4) (aC (eV 5) (aN)))))
def m_law_10 : SM := sAsg (gSet 11) (fE (eA mkTup (aC (eGetK (eV 7) (eV 9) (eV 9)) (aC (eA1 tupleV (eLc (iSeq (eV 10)) (ggTup 3 (ggCons (gSet 15) (ggCons (gSet 16) (ggCons (gSet 17) (ggNil))))) (bYes) (eA mkTup (aC (eV 15) (aC (eV 16) (aC (e2 ixV (eV 8) (eV 17)) (aN))))) [15, 16, 17])) (aN)))))
def m_law_11 : SM := sAsg (gSet 12) (fE (eCall 2 F_walk (aC (eCall 2 (F__law_renamed 100) (aC (eV 4) (aC (eV 6) (aN)))) (aC (eCall 5 F__law_turned (aC (eV 1) (aC (eV 5) (aC (eV 6) (aC (eV 7) (aC (eV 8) (aN))))))) (aN)))))
def m_law_13 : SM := sRet (eC (.bool false))
def m_law_12 : SM := sIf (bB (e2 (eqV true) (eA1 reprVD (eV 12)) (eA1 reprVD (eV 11)))) (m_law_13) (sNx)
def m_law_2 : SM := sFor (gSet 2) (iA rng1V (aC (eC (.int 6)) (aN)))
    (sSeq m_law_3 (sSeq m_law_4 (sSeq m_law_5 (sSeq m_law_6 (sSeq m_law_7 (sSeq m_law_8 (sSeq m_law_9 (sSeq m_law_10 (sSeq m_law_11 m_law_12)))))))))
def m_law_14 : SM := sRet (eC (.bool true))
def m_law : SM := sSeq m_law_1 (sSeq m_law_2 m_law_14)
theorem m_law_1_E {fr : Fr} {S : Store} : m_law_1 fr S = (sAsg (gSet 1) (fE (eCall 1 F__law_deck (aC (eV 0) (aN))))) fr S := rfl
theorem m_law_3_E {fr : Fr} {S : Store} : m_law_3 fr S = (sAsg (gSet 3) (fE (eCall 2 F__law_signs (aC (eV 1) (aC (eC (.int 3)) (aN)))))) fr S := rfl
theorem m_law_4_E {fr : Fr} {S : Store} : m_law_4 fr S = (sPar [4, 5] 18 (aC (eCall 3 F__law_maze (aC (eV 1) (aC (eV 3) (aC (eC (.int 60)) (aN))))) (aC (eCall 4 F__law_robot (aC (eV 1) (aC (eV 3) (aC (eA mkLst (aC (eC (.str "aha")) (aC (eC (.str "far")) (aN)))) (aC (eC (.int 4)) (aN)))))) (aN)))) fr S := rfl
theorem m_law_5_E {fr : Fr} {S : Store} : m_law_5 fr S = (sAsg (gSet 6) (fE (eA1 dictLV (eLc (iA enumV (aC (e1 revA (eCall 2 F__law_signs (aC (eV 1) (aC (eC (.int 3)) (aN))))) (aN))) (ggTup 2 (ggCons (gSet 13) (ggCons (gSet 14) (ggNil)))) (bYes) (eA mkTup (aC (e2 ixV (eV 3) (eV 13)) (aC (eV 14) (aN)))) [13, 14])))) fr S := rfl
theorem m_law_6_E {fr : Fr} {S : Store} : m_law_6 fr S = (sAsg (gSet 7) (fE (eCall 2 F__law_one (aC (eV 1) (aC (eA mkLst (aC (eA mkLst (aC (eC (.str "far")) (aC (eC (.str "aha")) (aN)))) (aC (eA mkLst (aC (eC (.str "b")) (aC (eC (.str "aha")) (aN)))) (aC (eA mkLst (aC (eC (.str "aha")) (aC (eC (.str "ffff")) (aN)))) (aN))))) (aN)))))) fr S := rfl
theorem m_law_7_E {fr : Fr} {S : Store} : m_law_7 fr S = (sAsg (gSet 7) (fE (eDict2 (eC (.str "aha")) (e2 ixV (eV 7) (eC (.int 0))) (eC (.str "far")) (e2 ixV (eV 7) (eC (.int 1)))))) fr S := rfl
theorem m_law_8_E {fr : Fr} {S : Store} : m_law_8 fr S = (sAsg (gSet 8) (fE (eCall 2 F__law_places (aC (eV 1) (aC (eA1 lenV (eV 5)) (aN)))))) fr S := rfl
theorem m_law_9_E {fr : Fr} {S : Store} : m_law_9 fr S = (sAsg (ggTup 2 (ggCons (gSet 9) (ggCons (gSet 10) (ggNil)))) (fE (eCall 2 F_walk (aC (eV 4) (aC (eV 5) (aN)))))) fr S := rfl
theorem m_law_10_E {fr : Fr} {S : Store} : m_law_10 fr S = (sAsg (gSet 11) (fE (eA mkTup (aC (eGetK (eV 7) (eV 9) (eV 9)) (aC (eA1 tupleV (eLc (iSeq (eV 10)) (ggTup 3 (ggCons (gSet 15) (ggCons (gSet 16) (ggCons (gSet 17) (ggNil))))) (bYes) (eA mkTup (aC (eV 15) (aC (eV 16) (aC (e2 ixV (eV 8) (eV 17)) (aN))))) [15, 16, 17])) (aN)))))) fr S := rfl
theorem m_law_11_E {fr : Fr} {S : Store} : m_law_11 fr S = (sAsg (gSet 12) (fE (eCall 2 F_walk (aC (eCall 2 (F__law_renamed 100) (aC (eV 4) (aC (eV 6) (aN)))) (aC (eCall 5 F__law_turned (aC (eV 1) (aC (eV 5) (aC (eV 6) (aC (eV 7) (aC (eV 8) (aN))))))) (aN)))))) fr S := rfl
theorem m_law_13_E {fr : Fr} {S : Store} : m_law_13 fr S = (sRet (eC (.bool false))) fr S := rfl
theorem m_law_12_E {fr : Fr} {S : Store} : m_law_12 fr S = (sIf (bB (e2 (eqV true) (eA1 reprVD (eV 12)) (eA1 reprVD (eV 11)))) (m_law_13) (sNx)) fr S := rfl
theorem m_law_2_E {fr : Fr} {S : Store} : m_law_2 fr S = (sFor (gSet 2) (iA rng1V (aC (eC (.int 6)) (aN)))
    (sSeq m_law_3 (sSeq m_law_4 (sSeq m_law_5 (sSeq m_law_6 (sSeq m_law_7 (sSeq m_law_8 (sSeq m_law_9 (sSeq m_law_10 (sSeq m_law_11 m_law_12)))))))))) fr S := rfl
theorem m_law_14_E {fr : Fr} {S : Store} : m_law_14 fr S = (sRet (eC (.bool true))) fr S := rfl
theorem m_law_E {fr : Fr} {S : Store} : m_law fr S = (sSeq m_law_1 (sSeq m_law_2 m_law_14)) fr S := rfl
def F_law : FN := bodyF 18 m_law
structure At (K : PySem.W.Frag) (mg : Str → Option Value) where
  f_behind_doors : Addr
  d_behind_doors : FuncData
  w_behind_doors : Fun K "behind_doors" "behind_doors" s_behind_doors f_behind_doors d_behind_doors
  b_behind_doors : Binds K d_behind_doors ["path", "branches"] []
  g_behind_doors : mg "behind_doors" = some (.ref f_behind_doors)
  f_room_paths : Addr
  d_room_paths : FuncData
  w_room_paths : Fun K "room_paths" "room_paths" s_room_paths f_room_paths d_room_paths
  b_room_paths : Binds K d_room_paths ["maze"] []
  g_room_paths : mg "room_paths" = some (.ref f_room_paths)
  f_rule_for : Addr
  d_rule_for : FuncData
  w_rule_for : Fun K "rule_for" "rule_for" s_rule_for f_rule_for d_rule_for
  b_rule_for : Binds K d_rule_for ["robot", "state", "sign", "doors"] []
  g_rule_for : mg "rule_for" = some (.ref f_rule_for)
  f_deed_by : Addr
  d_deed_by : FuncData
  w_deed_by : Fun K "deed_by" "deed_by" s_deed_by f_deed_by d_deed_by
  b_deed_by : Binds K d_deed_by ["robot", "state", "rule"] []
  g_deed_by : mg "deed_by" = some (.ref f_deed_by)
  f_deed_at : Addr
  d_deed_at : FuncData
  w_deed_at : Fun K "deed_at" "deed_at" s_deed_at f_deed_at d_deed_at
  b_deed_at : Binds K d_deed_at ["robot", "state", "sign", "doors"] []
  g_deed_at : mg "deed_at" = some (.ref f_deed_at)
  f_walk : Addr
  d_walk : FuncData
  w_walk : Fun K "walk" "walk" s_walk f_walk d_walk
  b_walk : Binds K d_walk ["maze", "robot"] []
  g_walk : mg "walk" = some (.ref f_walk)
  f__law_deck : Addr
  d__law_deck : FuncData
  w__law_deck : Fun K "_law_deck" "_law_deck" s__law_deck f__law_deck d__law_deck
  b__law_deck : Binds K d__law_deck ["_law_script"] []
  g__law_deck : mg "_law_deck" = some (.ref f__law_deck)
  f__law_draw : Addr
  d__law_draw : FuncData
  w__law_draw : Fun K "_law_draw" "_law_draw" s__law_draw f__law_draw d__law_draw
  b__law_draw : Binds K d__law_draw ["_law_deck_here", "_law_many"] []
  g__law_draw : mg "_law_draw" = some (.ref f__law_draw)
  f__law_one : Addr
  d__law_one : FuncData
  w__law_one : Fun K "_law_one" "_law_one" s__law_one f__law_one d__law_one
  b__law_one : Binds K d__law_one ["_law_deck_here", "_law_items"] []
  g__law_one : mg "_law_one" = some (.ref f__law_one)
  f__law_signs : Addr
  d__law_signs : FuncData
  w__law_signs : Fun K "_law_signs" "_law_signs" s__law_signs f__law_signs d__law_signs
  b__law_signs : Binds K d__law_signs ["_law_deck_here", "_law_many"] []
  g__law_signs : mg "_law_signs" = some (.ref f__law_signs)
  f__law_mazes : Addr
  d__law_mazes : FuncData
  w__law_mazes : Fun K "_law_mazes" "_law_mazes" s__law_mazes f__law_mazes d__law_mazes
  b__law_mazes : Binds K d__law_mazes ["_law_deck_here", "_law_kind", "_law_many", "_law_most"] []
  g__law_mazes : mg "_law_mazes" = some (.ref f__law_mazes)
  f__law_maze : Addr
  d__law_maze : FuncData
  w__law_maze : Fun K "_law_maze" "_law_maze" s__law_maze f__law_maze d__law_maze
  b__law_maze : Binds K d__law_maze ["_law_deck_here", "_law_signs_here", "_law_most"] []
  g__law_maze : mg "_law_maze" = some (.ref f__law_maze)
  f__law_robot : Addr
  d__law_robot : FuncData
  w__law_robot : Fun K "_law_robot" "_law_robot" s__law_robot f__law_robot d__law_robot
  b__law_robot : Binds K d__law_robot ["_law_deck_here", "_law_signs_here", "_law_words", "_law_most"] []
  g__law_robot : mg "_law_robot" = some (.ref f__law_robot)
  f__law_renamed : Addr
  d__law_renamed : FuncData
  w__law_renamed : Fun K "_law_renamed" "_law_renamed" s__law_renamed f__law_renamed d__law_renamed
  b__law_renamed : Binds K d__law_renamed ["_law_maze_here", "_law_names"] []
  g__law_renamed : mg "_law_renamed" = some (.ref f__law_renamed)
  f__law_turned : Addr
  d__law_turned : FuncData
  w__law_turned : Fun K "_law_turned" "_law_turned" s__law_turned f__law_turned d__law_turned
  b__law_turned : Binds K d__law_turned ["_law_deck_here", "_law_robot_here", "_law_names", "_law_words", "_law_places_here"] []
  g__law_turned : mg "_law_turned" = some (.ref f__law_turned)
  f__law_places : Addr
  d__law_places : FuncData
  w__law_places : Fun K "_law_places" "_law_places" s__law_places f__law_places d__law_places
  b__law_places : Binds K d__law_places ["_law_deck_here", "_law_many"] []
  g__law_places : mg "_law_places" = some (.ref f__law_places)
  f_law : Addr
  d_law : FuncData
  w_law : Fun K "law" "law" s_law f_law d_law
  b_law : Binds K d_law ["_law_script"] []
  g_law : mg "law" = some (.ref f_law)
  z_abs : mg "abs" = none
  z_dict : mg "dict" = none
  z_enumerate : mg "enumerate" = none
  z_int : mg "int" = none
  z_len : mg "len" = none
  z_list : mg "list" = none
  z_range : mg "range" = none
  z_repr : mg "repr" = none
  z_reversed : mg "reversed" = none
  z_sum : mg "sum" = none
  z_tuple : mg "tuple" = none
  t_EVER : Tok
  c_EVER : mg "EVER" = some (.str "ever" t_EVER)
  t_LOST : Tok
  c_LOST : mg "LOST" = some (.str "lost" t_LOST)
  t_OUT : Tok
  c_OUT : mg "OUT" = some (.str "out" t_OUT)
section
variable {P : Program} {w : World} {K : PySem.W.Frag} {mg : Str → Option Value} {base : Heap}
theorem sc_behind_doors : FnScope N_behind_doors ["path", "branches"] (defScope s_behind_doors) := ⟨rfl, rfl, rfl, by decide +kernel, rfl, by decide +kernel, by decide +kernel⟩
theorem sc_room_paths : FnScope N_room_paths ["maze"] (defScope s_room_paths) := ⟨rfl, rfl, rfl, by decide +kernel, rfl, by decide +kernel, by decide +kernel⟩
theorem sc_rule_for : FnScope N_rule_for ["robot", "state", "sign", "doors"] (defScope s_rule_for) := ⟨rfl, rfl, rfl, by decide +kernel, rfl, by decide +kernel, by decide +kernel⟩
theorem sc_deed_by : FnScope N_deed_by ["robot", "state", "rule"] (defScope s_deed_by) := ⟨rfl, rfl, rfl, by decide +kernel, rfl, by decide +kernel, by decide +kernel⟩
theorem sc_deed_at : FnScope N_deed_at ["robot", "state", "sign", "doors"] (defScope s_deed_at) := ⟨rfl, rfl, rfl, by decide +kernel, rfl, by decide +kernel, by decide +kernel⟩
theorem sc_walk : FnScope N_walk ["maze", "robot"] (defScope s_walk) := ⟨rfl, rfl, rfl, by decide +kernel, rfl, by decide +kernel, by decide +kernel⟩
theorem sc__law_deck : FnScope N__law_deck ["_law_script"] (defScope s__law_deck) := ⟨rfl, rfl, rfl, by decide +kernel, rfl, by decide +kernel, by decide +kernel⟩
theorem sc__law_draw : FnScope N__law_draw ["_law_deck_here", "_law_many"] (defScope s__law_draw) := ⟨rfl, rfl, rfl, by decide +kernel, rfl, by decide +kernel, by decide +kernel⟩
theorem sc__law_one : FnScope N__law_one ["_law_deck_here", "_law_items"] (defScope s__law_one) := ⟨rfl, rfl, rfl, by decide +kernel, rfl, by decide +kernel, by decide +kernel⟩
theorem sc__law_signs : FnScope N__law_signs ["_law_deck_here", "_law_many"] (defScope s__law_signs) := ⟨rfl, rfl, rfl, by decide +kernel, rfl, by decide +kernel, by decide +kernel⟩
theorem sc__law_mazes : FnScope N__law_mazes ["_law_deck_here", "_law_kind", "_law_many", "_law_most"] (defScope s__law_mazes) := ⟨rfl, rfl, rfl, by decide +kernel, rfl, by decide +kernel, by decide +kernel⟩
theorem sc__law_maze : FnScope N__law_maze ["_law_deck_here", "_law_signs_here", "_law_most"] (defScope s__law_maze) := ⟨rfl, rfl, rfl, by decide +kernel, rfl, by decide +kernel, by decide +kernel⟩
theorem sc__law_robot : FnScope N__law_robot ["_law_deck_here", "_law_signs_here", "_law_words", "_law_most"] (defScope s__law_robot) := ⟨rfl, rfl, rfl, by decide +kernel, rfl, by decide +kernel, by decide +kernel⟩
theorem sc__law_renamed : FnScope N__law_renamed ["_law_maze_here", "_law_names"] (defScope s__law_renamed) := ⟨rfl, rfl, rfl, by decide +kernel, rfl, by decide +kernel, by decide +kernel⟩
theorem sc__law_turned : FnScope N__law_turned ["_law_deck_here", "_law_robot_here", "_law_names", "_law_words", "_law_places_here"] (defScope s__law_turned) := ⟨rfl, rfl, rfl, by decide +kernel, rfl, by decide +kernel, by decide +kernel⟩
theorem sc__law_places : FnScope N__law_places ["_law_deck_here", "_law_many"] (defScope s__law_places) := ⟨rfl, rfl, rfl, by decide +kernel, rfl, by decide +kernel, by decide +kernel⟩
theorem sc_law : FnScope N_law ["_law_script"] (defScope s_law) := ⟨rfl, rfl, rfl, by decide +kernel, rfl, by decide +kernel, by decide +kernel⟩
theorem ok_behind_doors (e : At K mg) : FnG P w K mg base 1 e.f_behind_doors e.d_behind_doors ["path", "branches"] (spOf ⟨w, K, mg⟩ 2 F_behind_doors) :=
  def_ok (k := 0) (n := 2) (N := N_behind_doors) (m := m_behind_doors) (O' := []) e.w_behind_doors sc_behind_doors rfl fun cdv A outer s H E c =>
    (css_one (cs_ret (ce_of_cn (cn_lc rfl sc_behind_doors.nd (own := [("at", 2)]) (cis_of (ci_rev1 rfl e.z_reversed rfl e.z_range (ce_len e.z_len (cv_of (ce_var 1))))) (blkOk_by (N := N_behind_doors) (sc := (defScope s_behind_doors)) (by decide +kernel)) (fun _ _ _ _ _ => (cg_name 2 sc_behind_doors.nd)) (fun _ _ _ _ _ => cts_nil) (fun _ _ _ _ _ => (ce_tup (ca_cons (ce_op op_addR p_add (cv_of (ce_var 0)) (cv_of (ce_tup (ca_cons (ce_op op_addR p_add (cv_of (ce_var 2)) (cv_of ce_int)) ca_nil)))) (ca_cons (ce_ix ix_seq p_ix (cv_of (ce_var 1)) (cv_of (ce_var 2)) (fun _ _ => rfl)) ca_nil))))))))
theorem ok_room_paths (e : At K mg) : FnG P w K mg base 2 e.f_room_paths e.d_room_paths ["maze"] (spOf ⟨w, K, mg⟩ 1 F_room_paths) :=
  def_ok (k := 1) (n := 1) (N := N_room_paths) (m := m_room_paths) (O' := []) e.w_room_paths sc_room_paths rfl fun cdv A outer s H E c =>
    (css_cons (O1 := [false, true, true, false, false])
    (cs_par2 1 2 (os := [true, true]) rfl sc_room_paths.nd (cao_own (cn_lst (ca_cons (ce_tup (ca_cons (ce_tup ca_nil) (ca_cons (ce_var 0) ca_nil))) ca_nil)) (cao_own (cn_lst ca_nil) cao_nil)))
    (css_cons (O1 := [false, true, true, false, false])
    (cs_while c.ps (ct_cmp (op_neR c.hr) p_eq (cv_own 1) (cv_of (ce_lst ca_nil)) (nomark _)) (css_cons (O1 := [false, true, true, false, false])
    (cs_asg (cf_pop 1 rfl (pe_bm0 F.plainAttrs_list F.slot_list_pop F.type_list_pop mt_pop (pv 1))) (cg_tup rfl (cgs_cons (cg_name 3 sc_room_paths.nd) (cgs_cons (cg_name 4 sc_room_paths.nd) cgs_nil))))
    (css_cons (O1 := [false, true, true, false, false])
    (cs_app 2 rfl (ps_expr (pe_bm F.plainAttrs_list F.slot_list_append F.type_list_append mt_append (pv 2) (pa_cons (ce_tup (ca_cons (ce_var 3) (ca_cons (ce_var 4) ca_nil))) pa_nil))))
    (css_one (cs_ext 1 rfl (ps_expr (pe_bm F.plainAttrs_list F.slot_list_extend F.type_list_extend mt_extend (pv 1) (pa_cons (ce_call ((ok_behind_doors e).mono (by decide)) c.hr c.hs rfl e.g_behind_doors e.w_behind_doors.kp e.b_behind_doors c.tk (ca_cons (ce_var 3) (ca_cons (ce_ix ix_seq p_ix (cv_of (ce_var 4)) (cv_of ce_int) (fun _ _ => rfl)) ca_nil))) pa_nil))))))))
    (css_let [false, true, false, false, false] (css_one (cs_ret (ce_var 2))))))
theorem ok_rule_for (e : At K mg) : FnG P w K mg base 1 e.f_rule_for e.d_rule_for ["robot", "state", "sign", "doors"] (spOf ⟨w, K, mg⟩ 4 F_rule_for) :=
  def_ok (k := 0) (n := 4) (N := N_rule_for) (m := m_rule_for) (O' := []) e.w_rule_for sc_rule_for rfl fun cdv A outer s H E c =>
    (css_cons (O1 := [false, false, false, false, false, false])
    (cs_for (O1 := [false, false, false, false, false, false]) c.ps rfl (ci_enum rfl e.z_enumerate (ca_cons (ce_ix ix_seq p_ix (cv_of (ce_var 0)) (cv_of (ce_var 1)) (fun _ _ => rfl)) ca_nil)) (cg_tup rfl (cgs_cons (cg_name 4 sc_rule_for.nd) (cgs_cons (cg_name 5 sc_rule_for.nd) cgs_nil)))
    (css_one (cs_if (O' := [false, false, false, false, false, false]) (ct_w (cw_and (ct_cmp (op_inR c.hr) p_in (cv_of (ce_ix ix_seq p_ix (cv_of (ce_var 5)) (cv_of ce_int) (fun _ _ => rfl))) (cv_of (ce_tup (ca_cons ce_non (ca_cons (ce_var 2) ca_nil)))) rfl) (cw_and1 (ct_cmp (op_inR c.hr) p_in (cv_of (ce_ix ix_seq p_ix (cv_of (ce_var 5)) (cv_of ce_int) (fun _ _ => rfl))) (cv_of (ce_tup (ca_cons ce_non (ca_cons (ce_var 3) ca_nil)))) rfl)))) (css_one (cs_ret (ce_var 4))) css_nil)))
    (css_one (cs_ret ce_non)))
theorem ok_deed_by (e : At K mg) : FnG P w K mg base 1 e.f_deed_by e.d_deed_by ["robot", "state", "rule"] (spOf ⟨w, K, mg⟩ 3 F_deed_by) :=
  def_ok (k := 0) (n := 3) (N := N_deed_by) (m := m_deed_by) (O' := []) e.w_deed_by sc_deed_by rfl fun cdv A outer s H E c =>
    (css_one (cs_ret (ce_if (ct_cmp op_isN p_is (cv_of (ce_var 2)) (cv_of ce_non) (nomark _)) (ce_tup (ca_cons ce_str (ca_cons (ce_glob (v := .str "lost") rfl e.c_LOST ⟨_, rfl⟩ (fun _ _ => .str _)) ca_nil))) (ce_ix ix_seq p_ix (cv_of (ce_ix ix_seq p_ix (cv_of (ce_ix ix_seq p_ix (cv_of (ce_var 0)) (cv_of (ce_var 1)) (fun _ _ => rfl))) (cv_of (ce_var 2)) (fun _ _ => rfl))) (cv_of ce_int) (fun _ _ => rfl)))))
theorem ok_deed_at (e : At K mg) : FnG P w K mg base 2 e.f_deed_at e.d_deed_at ["robot", "state", "sign", "doors"] (spOf ⟨w, K, mg⟩ 4 F_deed_at) :=
  def_ok (k := 1) (n := 4) (N := N_deed_at) (m := m_deed_at) (O' := []) e.w_deed_at sc_deed_at rfl fun cdv A outer s H E c =>
    (css_one (cs_ret (ce_call ((ok_deed_by e).mono (by decide)) c.hr c.hs rfl e.g_deed_by e.w_deed_by.kp e.b_deed_by c.tk (ca_cons (ce_var 0) (ca_cons (ce_var 1) (ca_cons (ce_call ((ok_rule_for e).mono (by decide)) c.hr c.hs rfl e.g_rule_for e.w_rule_for.kp e.b_rule_for c.tk (ca_cons (ce_var 0) (ca_cons (ce_var 1) (ca_cons (ce_var 2) (ca_cons (ce_var 3) ca_nil))))) ca_nil))))))
theorem ok_walk (e : At K mg) : FnG P w K mg base 3 e.f_walk e.d_walk ["maze", "robot"] (spOf ⟨w, K, mg⟩ 2 F_walk) :=
  def_ok (k := 2) (n := 2) (N := N_walk) (m := m_walk) (O' := []) e.w_walk sc_walk rfl fun cdv A outer s H E c =>
    (css_cons (O1 := [false, false, false, false, false, false, false, false, false, false, false, false, false, false])
    (cs_dcSet 2 c.hr rfl sc_walk.nd (sw_trueD rfl rfl rfl (by decide +kernel)) (own := [("path", 6), ("branch", 13)]) (cis_any (cv_of (ce_call ((ok_room_paths e).mono (by decide)) c.hr c.hs rfl e.g_room_paths e.w_room_paths.kp e.b_room_paths c.tk (ca_cons (ce_var 0) ca_nil)))) (blkOk_by (N := N_walk) (sc := (defScope s_walk)) (by decide +kernel)) (fun _ _ _ _ _ => (cg_tup rfl (cgs_cons (cg_name 6 sc_walk.nd) (cgs_cons (cg_name 13 sc_walk.nd) cgs_nil)))) (fun _ _ _ _ _ => cts_nil) (fun _ _ _ _ _ => (ce_var 6)) (fun _ _ _ _ _ => (ce_tup (ca_cons (ce_ix ix_seq p_ix (cv_of (ce_var 13)) (cv_of ce_int) (fun _ _ => rfl)) (ca_cons (ce_op op_addR p_add (cv_of ce_int) (cv_of (ce_len e.z_len (cv_of (ce_ix ix_seq p_ix (cv_of (ce_var 13)) (cv_of ce_int) (fun _ _ => rfl)))))) ca_nil)))))
    (css_cons (O1 := [false, false, false, false, true, true, false, false, false, false, false, false, false, false])
    (cs_par3 3 4 5 (os := [false, true, true]) rfl sc_walk.nd (cao_val (ce_tup (ca_cons (ce_tup ca_nil) (ca_cons ce_int (ca_cons ce_int ca_nil)))) (cao_own (cn_lst ca_nil) (cao_own cn_dict0 cao_nil))))
    (css_cons (O1 := [false, false, false, false, true, true, false, false, false, false, false, false, false, false])
    (cs_while c.ps (ct_cmp (op_notInD c.hr) p_inD (cv_of (ce_var 3)) (cv_ownD 5) rfl) (css_cons (O1 := [false, false, false, false, true, true, false, false, false, false, false, false, false, false])
    (cs_putD 5 rfl (ps_asg ce_bl (pg_sub (pv 5) (ce_var 3) (set_dict c.hr))))
    (css_cons (O1 := [false, false, false, false, true, true, false, false, false, false, false, false, false, false])
    (cs_app 4 rfl (ps_expr (pe_bm F.plainAttrs_list F.slot_list_append F.type_list_append mt_append (pv 4) (pa_cons (ce_var 3) pa_nil))))
    (css_cons (O1 := [false, false, false, false, true, true, false, false, false, false, false, false, false, false])
    (cs_asg (cf_of (ce_var 3)) (cg_tup rfl (cgs_cons (cg_name 6 sc_walk.nd) (cgs_cons (cg_name 7 sc_walk.nd) (cgs_cons (cg_name 8 sc_walk.nd) cgs_nil)))))
    (css_cons (O1 := [false, false, false, false, true, true, false, false, false, false, false, false, false, false])
    (cs_asg (cf_of (ce_ix (ix_dict c.hr) p_ixD (cv_of (ce_var 2)) (cv_of (ce_var 6)) (fun _ _ => rfl))) (cg_tup rfl (cgs_cons (cg_name 9 sc_walk.nd) (cgs_cons (cg_name 10 sc_walk.nd) cgs_nil))))
    (css_cons (O1 := [false, false, false, false, true, true, false, false, false, false, false, false, false, false])
    (cs_set 11 sc_walk.nd (ce_call ((ok_deed_at e).mono (by decide)) c.hr c.hs rfl e.g_deed_at e.w_deed_at.kp e.b_deed_at c.tk (ca_cons (ce_var 1) (ca_cons (ce_var 8) (ca_cons (ce_var 9) (ca_cons (ce_var 10) ca_nil))))))
    (css_cons (O1 := [false, false, false, false, true, true, false, false, false, false, false, false, false, false])
    (cs_if (O' := [false, false, false, false, true, true, false, false, false, false, false, false, false, false]) (ct_cmp (op_eqR c.hr) p_eq (cv_of (ce_ix ix_seq p_ix (cv_of (ce_var 11)) (cv_of ce_int) (fun _ _ => rfl))) (cv_of ce_str) (nomark _)) (css_one (cs_ret (ce_tup (ca_cons (ce_ix ix_seq p_ix (cv_of (ce_var 11)) (cv_of ce_int) (fun _ _ => rfl)) (ca_cons (ce_totup e.z_tuple (cv_own 4)) ca_nil))))) css_nil)
    (css_cons (O1 := [false, false, false, false, true, true, false, false, false, false, false, false, false, false])
    (cs_set 12 sc_walk.nd (ce_op op_mod p_mod (cv_of (ce_op op_addR p_add (cv_of (ce_var 7)) (cv_of (ce_ix ix_seq p_ix (cv_of (ce_var 11)) (cv_of ce_int) (fun _ _ => rfl))))) (cv_of (ce_var 10))))
    (css_one (cs_if (O' := [false, false, false, false, true, true, false, false, false, false, false, false, false, false]) (ct_cmp op_gtR p_gt (cv_of (ce_var 12)) (cv_of ce_int) (nomark _)) (css_one (cs_set 3 sc_walk.nd (ce_tup (ca_cons (ce_op op_addR p_add (cv_of (ce_var 6)) (cv_of (ce_tup (ca_cons (ce_var 12) ca_nil)))) (ca_cons ce_int (ca_cons (ce_ix ix_seq p_ix (cv_of (ce_var 11)) (cv_of ce_int) (fun _ _ => rfl)) ca_nil)))))) (css_one (cs_if (O' := [false, false, false, false, true, true, false, false, false, false, false, false, false, false]) (ct_cmp (op_eqR c.hr) p_eq (cv_of (ce_var 6)) (cv_of (ce_tup ca_nil)) (nomark _)) (css_one (cs_ret (ce_tup (ca_cons (ce_glob (v := .str "out") rfl e.c_OUT ⟨_, rfl⟩ (fun _ _ => .str _)) (ca_cons (ce_totup e.z_tuple (cv_own 4)) ca_nil))))) (css_one (cs_set 3 sc_walk.nd (ce_tup (ca_cons (ce_slice (cv_of (ce_var 6)) co_none (co_some (ce_un un_neg p_neg (cv_of ce_int)))) (ca_cons (ce_ix ix_seq p_ix (cv_of (ce_var 6)) (cv_of (ce_un un_neg p_neg (cv_of ce_int))) (fun _ _ => rfl)) (ca_cons (ce_ix ix_seq p_ix (cv_of (ce_var 11)) (cv_of ce_int) (fun _ _ => rfl)) ca_nil))))))))))))))))))
    (css_one (cs_ret (ce_tup (ca_cons (ce_glob (v := .str "ever") rfl e.c_EVER ⟨_, rfl⟩ (fun _ _ => .str _)) (ca_cons (ce_totup e.z_tuple (cv_own 4)) ca_nil))))))))
theorem ok__law_deck (e : At K mg) : FnG P w K mg base 1 e.f__law_deck e.d__law_deck ["_law_script"] (spOf ⟨w, K, mg⟩ 1 F__law_deck) :=
  def_ok (k := 0) (n := 1) (N := N__law_deck) (m := m__law_deck) (O' := []) e.w__law_deck sc__law_deck rfl fun cdv A outer s H E c =>
    (css_one (cs_ret (ce_obj (ca_cons (ce_new (cn_lc rfl sc__law_deck.nd (own := [("_law_cell", 1)]) (cis_any (cv_of (ce_slice (cv_of (ce_var 0)) co_none (co_some ce_int)))) (blkOk_by (N := N__law_deck) (sc := (defScope s__law_deck)) (by decide +kernel)) (fun _ _ _ _ _ => (cg_name 1 sc__law_deck.nd)) (fun _ _ _ _ _ => cts_nil) (fun _ _ _ _ _ => (ce_abs e.z_abs (cv_of (ce_var 1)))))) (ca_cons ce_int ca_nil)))))
theorem ok__law_draw (e : At K mg) : FnG P w K mg base 1 e.f__law_draw e.d__law_draw ["_law_deck_here", "_law_many"] (spOf ⟨w, K, mg⟩ 2 F__law_draw) :=
  def_ok (k := 0) (n := 2) (N := N__law_draw) (m := m__law_draw) (O' := []) e.w__law_draw sc__law_draw rfl fun cdv A outer s H E c =>
    (css_cons (O1 := [false, false, false, false, false])
    (cs_putO (ps_asg (ce_op op_addR p_add (cv_of (ce_ix ix_seq p_ix (cv_of (ce_var 0)) (cv_of ce_int) (fun _ _ => rfl))) (cv_of ce_int)) (pg_sub (ce_var 0) ce_int set_list)))
    (css_cons (O1 := [false, false, false, false, false])
    (cs_asg (cf_of (ce_tup (ca_cons ce_int (ca_cons (ce_un un_neg p_neg (cv_of ce_int)) ca_nil)))) (cg_tup rfl (cgs_cons (cg_name 2 sc__law_draw.nd) (cgs_cons (cg_name 3 sc__law_draw.nd) cgs_nil))))
    (css_cons (O1 := [false, false, false, false, false])
    (cs_if (O' := [false, false, false, false, false]) (ct_cmp op_gtR p_gt (cv_of (ce_len e.z_len (cv_of (ce_ix ix_seq p_ix (cv_of (ce_var 0)) (cv_of ce_int) (fun _ _ => rfl))))) (cv_of ce_int) (nomark _)) (css_cons (O1 := [false, false, false, false, false])
    (cs_set 3 sc__law_draw.nd (ce_op op_mod p_mod (cv_of (ce_toint e.z_int (cv_of (ce_ix ix_seq p_ix (cv_of (ce_var 0)) (cv_of ce_int) (fun _ _ => rfl))))) (cv_of (ce_len e.z_len (cv_of (ce_ix ix_seq p_ix (cv_of (ce_var 0)) (cv_of ce_int) (fun _ _ => rfl)))))))
    (css_one (cs_set 2 sc__law_draw.nd (ce_ix ix_seq p_ix (cv_of (ce_ix ix_seq p_ix (cv_of (ce_var 0)) (cv_of ce_int) (fun _ _ => rfl))) (cv_of (ce_var 3)) (fun _ _ => rfl))))) css_nil)
    (css_cons (O1 := [false, false, false, false, false])
    (cs_if (O' := [false, false, false, false, false]) (ct_cmp op_geR p_ge (cv_of (ce_var 2)) (cv_of (ce_op op_pow p_pow (cv_of ce_int) (cv_of ce_int))) (nomark _)) (css_cons (O1 := [false, false, false, false, false])
    (cs_putO (ps_asg (ce_op op_fdiv p_div (cv_of (ce_toint e.z_int (cv_of (ce_var 2)))) (cv_of (ce_var 1))) (pg_sub (ce_ix ix_seq p_ix (cv_of (ce_var 0)) (cv_of ce_int) (fun _ _ => rfl)) (ce_var 3) set_list)))
    (css_one (cs_ret (ce_op op_mod p_mod (cv_of (ce_toint e.z_int (cv_of (ce_var 2)))) (cv_of (ce_var 1)))))) css_nil)
    (css_cons (O1 := [false, false, false, false, false])
    (cs_set 4 sc__law_draw.nd (ce_op op_addR p_add (cv_of (ce_op op_addR p_add (cv_of (ce_op op_mod p_mod (cv_of (ce_toint e.z_int (cv_of (ce_var 2)))) (cv_of ce_int))) (cv_of (ce_op op_mulR p_mul (cv_of ce_int) (cv_of (ce_ix ix_seq p_ix (cv_of (ce_var 0)) (cv_of ce_int) (fun _ _ => rfl))))))) (cv_of ce_int)))
    (css_one (cs_ret (ce_op op_mod p_mod (cv_of (ce_toint e.z_int (cv_of (ce_op op_mod p_mod (cv_of (ce_toint e.z_int (cv_of (ce_op op_pow p_pow (cv_of (ce_var 4)) (cv_of ce_int))))) (cv_of ce_int))))) (cv_of (ce_var 1))))))))))
theorem ok__law_one (e : At K mg) : FnG P w K mg base 2 e.f__law_one e.d__law_one ["_law_deck_here", "_law_items"] (spOf ⟨w, K, mg⟩ 2 F__law_one) :=
  def_ok (k := 1) (n := 2) (N := N__law_one) (m := m__law_one) (O' := []) e.w__law_one sc__law_one rfl fun cdv A outer s H E c =>
    (css_one (cs_ret (ce_ix ix_seq p_ix (cv_of (ce_var 1)) (cv_of (ce_call ((ok__law_draw e).mono (by decide)) c.hr c.hs rfl e.g__law_draw e.w__law_draw.kp e.b__law_draw c.tk (ca_cons (ce_var 0) (ca_cons (ce_len e.z_len (cv_of (ce_var 1))) ca_nil)))) (fun _ _ => rfl))))
theorem ok__law_signs (e : At K mg) : FnG P w K mg base 3 e.f__law_signs e.d__law_signs ["_law_deck_here", "_law_many"] (spOf ⟨w, K, mg⟩ 2 F__law_signs) :=
  def_ok (k := 2) (n := 2) (N := N__law_signs) (m := m__law_signs) (O' := []) e.w__law_signs sc__law_signs rfl fun cdv A outer s H E c =>
    (css_cons (O1 := [false, false, false, false, false, false])
    (cs_set 2 sc__law_signs.nd ce_str)
    (css_cons (O1 := [false, false, false, false, false, false])
    (cs_set 3 sc__law_signs.nd (ce_join (cv_of ce_str) (cv_of (ce_of_cn (cn_lc rfl sc__law_signs.nd (own := [("_law_k", 5)]) (cis_of (ci_range1 rfl e.z_range (ca_cons (ce_call ((ok__law_draw e).mono (by decide)) c.hr c.hs rfl e.g__law_draw e.w__law_draw.kp e.b__law_draw c.tk (ca_cons (ce_var 0) (ca_cons ce_int ca_nil))) ca_nil))) (blkOk_by (N := N__law_signs) (sc := (defScope s__law_signs)) (by decide +kernel)) (fun _ _ _ _ _ => (cg_name 5 sc__law_signs.nd)) (fun _ _ _ _ _ => cts_nil) (fun _ _ _ _ _ => (ce_call ((ok__law_one e).mono (by decide)) c.hr c.hs rfl e.g__law_one e.w__law_one.kp e.b__law_one lets_no (ca_cons (ce_var 0) (ca_cons (ce_var 2) ca_nil)))))))))
    (css_cons (O1 := [false, false, false, false, false, false])
    (cs_set 4 sc__law_signs.nd (ce_join (cv_of ce_str) (cv_of (ce_of_cn (cn_lc rfl sc__law_signs.nd (own := [("_law_k", 5)]) (cis_of (ci_range1 rfl e.z_range (ca_cons (ce_call ((ok__law_draw e).mono (by decide)) c.hr c.hs rfl e.g__law_draw e.w__law_draw.kp e.b__law_draw c.tk (ca_cons (ce_var 0) (ca_cons ce_int ca_nil))) ca_nil))) (blkOk_by (N := N__law_signs) (sc := (defScope s__law_signs)) (by decide +kernel)) (fun _ _ _ _ _ => (cg_name 5 sc__law_signs.nd)) (fun _ _ _ _ _ => cts_nil) (fun _ _ _ _ _ => (ce_call ((ok__law_one e).mono (by decide)) c.hr c.hs rfl e.g__law_one e.w__law_one.kp e.b__law_one lets_no (ca_cons (ce_var 0) (ca_cons (ce_var 2) ca_nil)))))))))
    (css_one (cs_ret (ce_of_cn (cn_lc rfl sc__law_signs.nd (own := [("_law_k", 5)]) (cis_of (ci_range1 rfl e.z_range (ca_cons (ce_var 1) ca_nil))) (blkOk_by (N := N__law_signs) (sc := (defScope s__law_signs)) (by decide +kernel)) (fun _ _ _ _ _ => (cg_name 5 sc__law_signs.nd)) (fun _ _ _ _ _ => cts_nil) (fun _ _ _ _ _ => (ce_op op_addR p_add (cv_of (ce_op op_addR p_add (cv_of (ce_var 3)) (cv_of (ce_ix ix_seq p_ix (cv_of ce_str) (cv_of (ce_var 5)) (fun _ _ => rfl))))) (cv_of (ce_var 4)))))))))))
theorem ok__law_mazes (e : At K mg) : FnG P w K mg base 3 e.f__law_mazes e.d__law_mazes ["_law_deck_here", "_law_kind", "_law_many", "_law_most"] (spOf ⟨w, K, mg⟩ 4 F__law_mazes) :=
  def_ok (k := 2) (n := 4) (N := N__law_mazes) (m := m__law_mazes) (O' := []) e.w__law_mazes sc__law_mazes rfl fun cdv A outer s H E c =>
    (css_cons (O1 := [false, false, false, false, true, false, false, false, false, false, false, false, false])
    (cs_own 4 sc__law_mazes.nd (cn_lc rfl sc__law_mazes.nd (own := [("_law_sign", 7), ("_law_count", 8)]) (cis_any (cv_of (ce_var 1))) (blkOk_by (N := N__law_mazes) (sc := (defScope s__law_mazes)) (by decide +kernel)) (fun _ _ _ _ _ => (cg_tup rfl (cgs_cons (cg_name 7 sc__law_mazes.nd) (cgs_cons (cg_name 8 sc__law_mazes.nd) cgs_nil)))) (fun _ _ _ _ _ => (cts_one (ct_cmp (op_eqR c.hr) p_eq (cv_of (ce_var 8)) (cv_of ce_int) (nomark _)))) (fun _ _ _ _ _ => (ce_tup (ca_cons (ce_var 7) (ca_cons (ce_tup ca_nil) ca_nil))))))
    (css_cons (O1 := [false, false, false, false, true, true, false, false, false, false, false, false, false])
    (cs_own 5 sc__law_mazes.nd (cn_rep (cv_of (ce_lst (ca_cons ce_int ca_nil))) (cv_of (ce_len e.z_len (cv_own 4)))))
    (css_cons (O1 := [false, false, false, false, true, true, false, false, false, false, false, false, false])
    (cs_for (O1 := [false, false, false, false, true, true, false, false, false, false, false, false, false]) c.ps rfl (ci_range1 rfl e.z_range (ca_cons (ce_var 2) ca_nil)) (cg_name 6 sc__law_mazes.nd)
    (css_end [false, false, false, false, true, true, false, false, false, true, false, false, false] (O' := [false, false, false, false, true, true, false, false, false, false, false, false, false]) (css_cons (O1 := [false, false, false, false, true, true, false, false, false, false, false, false, false])
    (cs_asg (cf_of (ce_call ((ok__law_one e).mono (by decide)) c.hr c.hs rfl e.g__law_one e.w__law_one.kp e.b__law_one c.tk (ca_cons (ce_var 0) (ca_cons (ce_var 1) ca_nil)))) (cg_tup rfl (cgs_cons (cg_name 7 sc__law_mazes.nd) (cgs_cons (cg_name 8 sc__law_mazes.nd) cgs_nil))))
    (css_cons (O1 := [false, false, false, false, true, true, false, false, false, true, false, false, false])
    (cs_lcOwn 9 rfl sc__law_mazes.nd (sw_true rfl rfl rfl (by decide +kernel)) (own := [("_law_j", 11)]) (cis_of (ci_range1 rfl e.z_range (ca_cons (ce_var 8) ca_nil))) (blkOk_by (N := N__law_mazes) (sc := (defScope s__law_mazes)) (by decide +kernel)) (fun _ _ _ _ _ => (cg_name 11 sc__law_mazes.nd)) (fun _ _ _ _ _ => cts_nil) (fun _ _ _ _ _ => (ce_call ((ok__law_draw e).mono (by decide)) c.hr c.hs rfl e.g__law_draw e.w__law_draw.kp e.b__law_draw lets_no (ca_cons (ce_var 0) (ca_cons (ce_len e.z_len (cv_own 4)) ca_nil)))))
    (css_cons (O1 := [false, false, false, false, true, true, false, false, false, true, false, false, false])
    (cs_if (O' := [false, false, false, false, true, true, false, false, false, true, false, false, false]) (ct_w (cw_and (ct_cmp op_gtR p_gt (cv_of (ce_var 8)) (cv_of ce_int) (nomark _)) (cw_and1 (ct_cmp op_gtR p_gt (cv_of (ce_call ((ok__law_draw e).mono (by decide)) c.hr c.hs rfl e.g__law_draw e.w__law_draw.kp e.b__law_draw c.tk (ca_cons (ce_var 0) (ca_cons ce_int ca_nil)))) (cv_of ce_int) (nomark _))))) (css_one (cs_putI 9 rfl (ps_asg (ce_op op_sub p_sub (cv_of (ce_len e.z_len (cv_own 4))) (cv_of ce_int)) (pg_sub (pv 9) (ce_call ((ok__law_draw e).mono (by decide)) c.hr c.hs rfl e.g__law_draw e.w__law_draw.kp e.b__law_draw c.tk (ca_cons (ce_var 0) (ca_cons (ce_var 8) ca_nil))) set_list)))) css_nil)
    (css_cons (O1 := [false, false, false, false, true, true, false, false, false, true, false, false, false])
    (cs_set 10 sc__law_mazes.nd (ce_op op_addR p_add (cv_of ce_int) (cv_of (ce_sum rfl e.z_sum (cv_of (ce_of_cn (cn_lc rfl sc__law_mazes.nd (own := [("_law_part", 12)]) (cis_any (cv_own 9)) (blkOk_by (N := N__law_mazes) (sc := (defScope s__law_mazes)) (by decide +kernel)) (fun _ _ _ _ _ => (cg_name 12 sc__law_mazes.nd)) (fun _ _ _ _ _ => cts_nil) (fun _ _ _ _ _ => (ce_ix ix_seq p_ix (cv_own 5) (cv_of (ce_var 12)) (fun _ _ => rfl))))))))))
    (css_one (cs_if (O' := [false, false, false, false, true, true, false, false, false, true, false, false, false]) (ct_cmp op_leR p_le (cv_of (ce_var 10)) (cv_of (ce_var 3)) (nomark _)) (css_cons (O1 := [false, false, false, false, true, true, false, false, false, true, false, false, false])
    (cs_app 4 rfl (ps_expr (pe_bm F.plainAttrs_list F.slot_list_append F.type_list_append mt_append (pv 4) (pa_cons (ce_tup (ca_cons (ce_var 7) (ca_cons (ce_totup e.z_tuple (cv_of (ce_of_cn (cn_lc rfl sc__law_mazes.nd (own := [("_law_part", 12)]) (cis_any (cv_own 9)) (blkOk_by (N := N__law_mazes) (sc := (defScope s__law_mazes)) (by decide +kernel)) (fun _ _ _ _ _ => (cg_name 12 sc__law_mazes.nd)) (fun _ _ _ _ _ => cts_nil) (fun _ _ _ _ _ => (ce_ix ix_seq p_ix (cv_own 4) (cv_of (ce_var 12)) (fun _ _ => rfl))))))) ca_nil))) pa_nil))))
    (css_one (cs_app 5 rfl (ps_expr (pe_bm F.plainAttrs_list F.slot_list_append F.type_list_append mt_append (pv 5) (pa_cons (ce_var 10) pa_nil)))))) css_nil))))))))
    (css_let [false, false, false, false, false, true, false, false, false, false, false, false, false] (css_one (cs_ret (ce_var 4)))))))
theorem ok__law_maze (e : At K mg) : FnG P w K mg base 4 e.f__law_maze e.d__law_maze ["_law_deck_here", "_law_signs_here", "_law_most"] (spOf ⟨w, K, mg⟩ 3 F__law_maze) :=
  def_ok (k := 3) (n := 3) (N := N__law_maze) (m := m__law_maze) (O' := []) e.w__law_maze sc__law_maze rfl fun cdv A outer s H E c =>
    (css_cons (O1 := [false, false, false, true, false, false])
    (cs_own 3 sc__law_maze.nd (cn_lst ca_nil))
    (css_cons (O1 := [false, false, false, true, false, false])
    (cs_for (O1 := [false, false, false, true, false, false]) c.ps rfl (ci_any (ce_var 1)) (cg_name 4 sc__law_maze.nd)
    (css_one (cs_ext 3 rfl (ps_expr (pe_bm F.plainAttrs_list F.slot_list_extend F.type_list_extend mt_extend (pv 3) (pa_cons (ce_of_cn (cn_lc rfl sc__law_maze.nd (own := [("_law_count", 5)]) (cis_of (ci_range1 rfl e.z_range (ca_cons ce_int ca_nil))) (blkOk_by (N := N__law_maze) (sc := (defScope s__law_maze)) (by decide +kernel)) (fun _ _ _ _ _ => (cg_name 5 sc__law_maze.nd)) (fun _ _ _ _ _ => cts_nil) (fun _ _ _ _ _ => (ce_tup (ca_cons (ce_var 4) (ca_cons (ce_var 5) ca_nil)))))) pa_nil))))))
    (css_let [false, false, false, false, false, false] (css_one (cs_ret (ce_ix ix_seq p_ix (cv_of (ce_call ((ok__law_mazes e).mono (by decide)) c.hr c.hs rfl e.g__law_mazes e.w__law_mazes.kp e.b__law_mazes c.tk (ca_cons (ce_var 0) (ca_cons (ce_var 3) (ca_cons (ce_op op_addR p_add (cv_of ce_int) (cv_of (ce_call ((ok__law_draw e).mono (by decide)) c.hr c.hs rfl e.g__law_draw e.w__law_draw.kp e.b__law_draw c.tk (ca_cons (ce_var 0) (ca_cons ce_int ca_nil))))) (ca_cons (ce_var 2) ca_nil)))))) (cv_of (ce_un un_neg p_neg (cv_of ce_int))) (fun _ _ => rfl)))))))
theorem ok__law_robot (e : At K mg) : FnG P w K mg base 3 e.f__law_robot e.d__law_robot ["_law_deck_here", "_law_signs_here", "_law_words", "_law_most"] (spOf ⟨w, K, mg⟩ 4 F__law_robot) :=
  def_ok (k := 2) (n := 4) (N := N__law_robot) (m := m__law_robot) (O' := []) e.w__law_robot sc__law_robot rfl fun cdv A outer s H E c =>
    (css_cons (O1 := [false, false, false, false, false, true, false, false, false, false, false])
    (cs_par2 4 5 (os := [false, true]) rfl sc__law_robot.nd (cao_val (ce_op op_addR p_add (cv_of ce_int) (cv_of (ce_call ((ok__law_draw e).mono (by decide)) c.hr c.hs rfl e.g__law_draw e.w__law_draw.kp e.b__law_draw c.tk (ca_cons (ce_var 0) (ca_cons (ce_var 3) ca_nil))))) (cao_own (cn_lst ca_nil) cao_nil)))
    (css_cons (O1 := [false, false, false, false, false, true, false, false, false, false, false])
    (cs_for (O1 := [false, false, false, false, false, true, false, false, false, false, false]) c.ps rfl (ci_range1 rfl e.z_range (ca_cons (ce_var 4) ca_nil)) (cg_name 6 sc__law_robot.nd)
    (css_end [false, false, false, false, false, true, false, true, false, false, false] (O' := [false, false, false, false, false, true, false, false, false, false, false]) (css_cons (O1 := [false, false, false, false, false, true, false, true, false, false, false])
    (cs_own 7 sc__law_robot.nd (cn_lst ca_nil))
    (css_cons (O1 := [false, false, false, false, false, true, false, true, false, false, false])
    (cs_for (O1 := [false, false, false, false, false, true, false, true, false, false, false]) c.ps rfl (ci_range1 rfl e.z_range (ca_cons (ce_call ((ok__law_draw e).mono (by decide)) c.hr c.hs rfl e.g__law_draw e.w__law_draw.kp e.b__law_draw c.tk (ca_cons (ce_var 0) (ca_cons ce_int ca_nil))) ca_nil)) (cg_name 8 sc__law_robot.nd)
    (css_cons (O1 := [false, false, false, false, false, true, false, true, false, false, false])
    (cs_set 9 sc__law_robot.nd (ce_tup (ca_cons ce_str (ca_cons (ce_call ((ok__law_draw e).mono (by decide)) c.hr c.hs rfl e.g__law_draw e.w__law_draw.kp e.b__law_draw c.tk (ca_cons (ce_var 0) (ca_cons ce_int ca_nil))) (ca_cons (ce_call ((ok__law_draw e).mono (by decide)) c.hr c.hs rfl e.g__law_draw e.w__law_draw.kp e.b__law_draw c.tk (ca_cons (ce_var 0) (ca_cons (ce_var 4) ca_nil))) ca_nil)))))
    (css_cons (O1 := [false, false, false, false, false, true, false, true, false, false, false])
    (cs_if (O' := [false, false, false, false, false, true, false, true, false, false, false]) (ct_cmp (op_eqR c.hr) p_eq (cv_of (ce_call ((ok__law_draw e).mono (by decide)) c.hr c.hs rfl e.g__law_draw e.w__law_draw.kp e.b__law_draw c.tk (ca_cons (ce_var 0) (ca_cons ce_int ca_nil)))) (cv_of ce_int) (nomark _)) (css_one (cs_set 9 sc__law_robot.nd (ce_tup (ca_cons ce_str (ca_cons (ce_call ((ok__law_one e).mono (by decide)) c.hr c.hs rfl e.g__law_one e.w__law_one.kp e.b__law_one c.tk (ca_cons (ce_var 0) (ca_cons (ce_var 2) ca_nil))) ca_nil))))) css_nil)
    (css_cons (O1 := [false, false, false, false, false, true, false, true, false, false, false])
    (cs_set 10 sc__law_robot.nd (ce_if (ct_cmp (op_eqR c.hr) p_eq (cv_of (ce_call ((ok__law_draw e).mono (by decide)) c.hr c.hs rfl e.g__law_draw e.w__law_draw.kp e.b__law_draw c.tk (ca_cons (ce_var 0) (ca_cons ce_int ca_nil)))) (cv_of ce_int) (nomark _)) ce_non (ce_call ((ok__law_one e).mono (by decide)) c.hr c.hs rfl e.g__law_one e.w__law_one.kp e.b__law_one c.tk (ca_cons (ce_var 0) (ca_cons (ce_var 1) ca_nil)))))
    (css_one (cs_app 7 rfl (ps_expr (pe_bm F.plainAttrs_list F.slot_list_append F.type_list_append mt_append (pv 7) (pa_cons (ce_tup (ca_cons (ce_var 10) (ca_cons (ce_call ((ok__law_one e).mono (by decide)) c.hr c.hs rfl e.g__law_one e.w__law_one.kp e.b__law_one c.tk (ca_cons (ce_var 0) (ca_cons (ce_lst (ca_cons ce_non (ca_cons ce_non (ca_cons ce_int (ca_cons ce_int (ca_cons ce_int ca_nil)))))) ca_nil))) (ca_cons (ce_var 9) ca_nil)))) pa_nil)))))))))
    (css_cons (O1 := [false, false, false, false, false, true, false, true, false, false, false])
    (cs_if (O' := [false, false, false, false, false, true, false, true, false, false, false]) (ct_cmp op_gtR p_gt (cv_of (ce_call ((ok__law_draw e).mono (by decide)) c.hr c.hs rfl e.g__law_draw e.w__law_draw.kp e.b__law_draw c.tk (ca_cons (ce_var 0) (ca_cons ce_int ca_nil)))) (cv_of ce_int) (nomark _)) (css_one (cs_app 7 rfl (ps_expr (pe_bm F.plainAttrs_list F.slot_list_append F.type_list_append mt_append (pv 7) (pa_cons (ce_tup (ca_cons ce_non (ca_cons ce_non (ca_cons (ce_tup (ca_cons ce_str (ca_cons (ce_op op_addR p_add (cv_of ce_int) (cv_of (ce_call ((ok__law_draw e).mono (by decide)) c.hr c.hs rfl e.g__law_draw e.w__law_draw.kp e.b__law_draw c.tk (ca_cons (ce_var 0) (ca_cons ce_int ca_nil))))) (ca_cons (ce_call ((ok__law_draw e).mono (by decide)) c.hr c.hs rfl e.g__law_draw e.w__law_draw.kp e.b__law_draw c.tk (ca_cons (ce_var 0) (ca_cons (ce_var 4) ca_nil))) ca_nil)))) ca_nil)))) pa_nil))))) css_nil)
    (css_one (cs_app 5 rfl (ps_expr (pe_bm F.plainAttrs_list F.slot_list_append F.type_list_append mt_append (pv 5) (pa_cons (ce_totup e.z_tuple (cv_own 7)) pa_nil))))))))))
    (css_one (cs_ret (ce_totup e.z_tuple (cv_own 5))))))
theorem ok__law_renamed (e : At K mg) : ∀ n : Nat, FnG P w K mg base (0 + n) e.f__law_renamed e.d__law_renamed ["_law_maze_here", "_law_names"] (spOf ⟨w, K, mg⟩ 2 (F__law_renamed n))
  | 0 => def_bad rfl
  | n + 1 => def_ok (k := 0 + n) (n := 2) (N := N__law_renamed) (m := m__law_renamed_ (F__law_renamed n)) (O' := []) e.w__law_renamed sc__law_renamed rfl fun cdv A outer s H E c =>
    (css_one (cs_ret (ce_tup (ca_cons (ce_ix ix_dictK p_ixK (cv_of (ce_var 1)) (cv_of (ce_ix ix_seq p_ix (cv_of (ce_var 0)) (cv_of ce_int) (fun _ _ => rfl))) (fun _ _ => rfl)) (ca_cons (ce_totup e.z_tuple (cv_of (ce_of_cn (cn_lc rfl sc__law_renamed.nd (own := [("_law_branch", 2)]) (cis_any (cv_of (ce_ix ix_seq p_ix (cv_of (ce_var 0)) (cv_of ce_int) (fun _ _ => rfl)))) (blkOk_by (N := N__law_renamed) (sc := (defScope s__law_renamed)) (by decide +kernel)) (fun _ _ _ _ _ => (cg_name 2 sc__law_renamed.nd)) (fun _ _ _ _ _ => cts_nil) (fun _ _ _ _ _ => (ce_call (ok__law_renamed e n) c.hr c.hs rfl e.g__law_renamed e.w__law_renamed.kp e.b__law_renamed lets_no (ca_cons (ce_var 2) (ca_cons (ce_var 1) ca_nil)))))))) ca_nil)))))
theorem ok__law_turned (e : At K mg) : FnG P w K mg base 2 e.f__law_turned e.d__law_turned ["_law_deck_here", "_law_robot_here", "_law_names", "_law_words", "_law_places_here"] (spOf ⟨w, K, mg⟩ 5 F__law_turned) :=
  def_ok (k := 1) (n := 5) (N := N__law_turned) (m := m__law_turned) (O' := []) e.w__law_turned sc__law_turned rfl fun cdv A outer s H E c =>
    (css_cons (O1 := [false, false, false, false, false, true, false, false, false, false, false, false])
    (cs_own 5 sc__law_turned.nd (cn_rep (cv_of (ce_lst (ca_cons (ce_tup ca_nil) ca_nil))) (cv_of (ce_len e.z_len (cv_of (ce_var 1))))))
    (css_cons (O1 := [false, false, false, false, false, true, false, false, false, false, false, false])
    (cs_for (O1 := [false, false, false, false, false, true, false, false, false, false, false, false]) c.ps rfl (ci_range1 rfl e.z_range (ca_cons (ce_len e.z_len (cv_of (ce_var 1))) ca_nil)) (cg_name 6 sc__law_turned.nd)
    (css_end [false, false, false, false, false, true, false, true, false, false, false, false] (O' := [false, false, false, false, false, true, false, false, false, false, false, false]) (css_cons (O1 := [false, false, false, false, false, true, false, true, false, false, false, false])
    (cs_own 7 sc__law_turned.nd (cn_lst ca_nil))
    (css_cons (O1 := [false, false, false, false, false, true, false, true, false, false, false, false])
    (cs_for (O1 := [false, false, false, false, false, true, false, true, false, false, false, false]) c.ps rfl (ci_any (ce_ix ix_seq p_ix (cv_of (ce_var 1)) (cv_of (ce_var 6)) (fun _ _ => rfl))) (cg_tup rfl (cgs_cons (cg_name 8 sc__law_turned.nd) (cgs_cons (cg_name 9 sc__law_turned.nd) (cgs_cons (cg_name 10 sc__law_turned.nd) cgs_nil))))
    (css_cons (O1 := [false, false, false, false, false, true, false, true, false, false, false, false])
    (cs_set 11 sc__law_turned.nd (ce_if (ct_cmp (op_eqR c.hr) p_eq (cv_of (ce_ix ix_seq p_ix (cv_of (ce_var 10)) (cv_of ce_int) (fun _ _ => rfl))) (cv_of ce_str) (nomark _)) (ce_tup (ca_cons ce_str (ca_cons (ce_ix ix_dictK p_ixK (cv_of (ce_var 3)) (cv_of (ce_ix ix_seq p_ix (cv_of (ce_var 10)) (cv_of ce_int) (fun _ _ => rfl))) (fun _ _ => rfl)) ca_nil))) (ce_tup (ca_cons ce_str (ca_cons (ce_ix ix_seq p_ix (cv_of (ce_var 10)) (cv_of ce_int) (fun _ _ => rfl)) (ca_cons (ce_ix ix_seq p_ix (cv_of (ce_var 4)) (cv_of (ce_ix ix_seq p_ix (cv_of (ce_var 10)) (cv_of ce_int) (fun _ _ => rfl))) (fun _ _ => rfl)) ca_nil))))))
    (css_cons (O1 := [false, false, false, false, false, true, false, true, false, false, false, false])
    (cs_app 7 rfl (ps_expr (pe_bm F.plainAttrs_list F.slot_list_append F.type_list_append mt_append (pv 7) (pa_cons (ce_tup (ca_cons (ce_if (ct_cmp op_isN p_is (cv_of (ce_var 8)) (cv_of ce_non) (nomark _)) ce_non (ce_ix ix_dictK p_ixK (cv_of (ce_var 2)) (cv_of (ce_var 8)) (fun _ _ => rfl))) (ca_cons (ce_var 9) (ca_cons (ce_var 11) ca_nil)))) pa_nil))))
    (css_one (cs_if (O' := [false, false, false, false, false, true, false, true, false, false, false, false]) (ct_w (cw_and (ct_cmp (op_eqR c.hr) p_eq (cv_of (ce_call ((ok__law_draw e).mono (by decide)) c.hr c.hs rfl e.g__law_draw e.w__law_draw.kp e.b__law_draw c.tk (ca_cons (ce_var 0) (ca_cons ce_int ca_nil)))) (cv_of ce_int) (nomark _)) (cw_and1 (ct_cmp (op_ltD c.hr) p_ltD (cv_of (ce_len e.z_len (cv_of (ce_ix ix_seq p_ix (cv_of (ce_var 1)) (cv_of (ce_var 6)) (fun _ _ => rfl))))) (cv_of ce_int) (nomark _))))) (css_one (cs_app 7 rfl (ps_expr (pe_bm F.plainAttrs_list F.slot_list_append F.type_list_append mt_append (pv 7) (pa_cons (ce_tup (ca_cons (ce_ix ix_seq p_ix (cv_of (ce_ix ix_seq p_ix (cv_own 7) (cv_of (ce_un un_neg p_neg (cv_of ce_int))) (fun _ _ => rfl))) (cv_of ce_int) (fun _ _ => rfl)) (ca_cons (ce_ix ix_seq p_ix (cv_of (ce_ix ix_seq p_ix (cv_own 7) (cv_of (ce_un un_neg p_neg (cv_of ce_int))) (fun _ _ => rfl))) (cv_of ce_int) (fun _ _ => rfl)) (ca_cons (ce_tup (ca_cons ce_str (ca_cons ce_str ca_nil))) ca_nil)))) pa_nil))))) css_nil)))))
    (css_one (cs_putI 5 rfl (ps_asg (ce_slice (cv_of (ce_totup e.z_tuple (cv_own 7))) co_none (co_some ce_int)) (pg_sub (pv 5) (ce_ix ix_seq p_ix (cv_of (ce_var 4)) (cv_of (ce_var 6)) (fun _ _ => rfl)) set_list))))))))
    (css_one (cs_ret (ce_totup e.z_tuple (cv_own 5))))))
theorem ok__law_places (e : At K mg) : FnG P w K mg base 2 e.f__law_places e.d__law_places ["_law_deck_here", "_law_many"] (spOf ⟨w, K, mg⟩ 2 F__law_places) :=
  def_ok (k := 1) (n := 2) (N := N__law_places) (m := m__law_places) (O' := []) e.w__law_places sc__law_places rfl fun cdv A outer s H E c =>
    (css_cons (O1 := [false, false, true, true])
    (cs_par2 2 3 (os := [true, true]) rfl sc__law_places.nd (cao_own (cn_listRg rfl e.z_list e.z_range (cv_of ce_int) (cv_of (ce_var 1))) (cao_own (cn_lst (ca_cons ce_int ca_nil)) cao_nil)))
    (css_cons (O1 := [false, false, true, true])
    (cs_while c.ps (ct_cmp (op_neR c.hr) p_eq (cv_own 2) (cv_of (ce_lst ca_nil)) (nomark _)) (css_one (cs_appF 3 rfl (ps_expr (pe_bm F.plainAttrs_list F.slot_list_append F.type_list_append mt_append (pv 3) (pa_cons (cf_popAt 2 rfl (pe_bm F.plainAttrs_list F.slot_list_pop F.type_list_pop mt_popAt (pv 2) (pa_cons (ce_call ((ok__law_draw e).mono (by decide)) c.hr c.hs rfl e.g__law_draw e.w__law_draw.kp e.b__law_draw c.tk (ca_cons (ce_var 0) (ca_cons (ce_len e.z_len (cv_own 2)) ca_nil))) pa_nil))) pa_nil))))))
    (css_let [false, false, true, false] (css_one (cs_ret (ce_var 3))))))
theorem ok_law (e : At K mg) : FnG P w K mg base 102 e.f_law e.d_law ["_law_script"] (spOf ⟨w, K, mg⟩ 1 F_law) :=
  def_ok (k := 101) (n := 1) (N := N_law) (m := m_law) (O' := []) e.w_law sc_law rfl fun cdv A outer s H E c =>
    (css_cons (O1 := [false, false, false, false, false, false, false, false, false, false, false, false, false, false, false, false, false, false])
    (cs_set 1 sc_law.nd (ce_call ((ok__law_deck e).mono (by decide)) c.hr c.hs rfl e.g__law_deck e.w__law_deck.kp e.b__law_deck c.tk (ca_cons (ce_var 0) ca_nil)))
    (css_cons (O1 := [false, false, false, false, false, false, false, false, false, false, false, false, false, false, false, false, false, false])
    (cs_for (O1 := [false, false, false, false, false, false, false, false, false, false, false, false, false, false, false, false, false, false]) c.ps rfl (ci_range1 rfl e.z_range (ca_cons ce_int ca_nil)) (cg_name 2 sc_law.nd)
    (css_cons (O1 := [false, false, false, false, false, false, false, false, false, false, false, false, false, false, false, false, false, false])
    (cs_set 3 sc_law.nd (ce_call ((ok__law_signs e).mono (by decide)) c.hr c.hs rfl e.g__law_signs e.w__law_signs.kp e.b__law_signs c.tk (ca_cons (ce_var 1) (ca_cons ce_int ca_nil))))
    (css_cons (O1 := [false, false, false, false, false, false, false, false, false, false, false, false, false, false, false, false, false, false])
    (cs_par2 4 5 (os := [false, false]) rfl sc_law.nd (cao_val (ce_call ((ok__law_maze e).mono (by decide)) c.hr c.hs rfl e.g__law_maze e.w__law_maze.kp e.b__law_maze c.tk (ca_cons (ce_var 1) (ca_cons (ce_var 3) (ca_cons ce_int ca_nil)))) (cao_val (ce_call ((ok__law_robot e).mono (by decide)) c.hr c.hs rfl e.g__law_robot e.w__law_robot.kp e.b__law_robot c.tk (ca_cons (ce_var 1) (ca_cons (ce_var 3) (ca_cons (ce_lst (ca_cons ce_str (ca_cons ce_str ca_nil))) (ca_cons ce_int ca_nil))))) cao_nil)))
    (css_cons (O1 := [false, false, false, false, false, false, false, false, false, false, false, false, false, false, false, false, false, false])
    (cs_set 6 sc_law.nd (ce_of_cn (cn_dictL rfl e.z_dict (cv_of (ce_of_cn (cn_lc rfl sc_law.nd (own := [("_law_k", 13), ("_law_sign", 14)]) (cis_of (ci_enum rfl e.z_enumerate (ca_cons (ce_rev (cv_of (ce_call ((ok__law_signs e).mono (by decide)) c.hr c.hs rfl e.g__law_signs e.w__law_signs.kp e.b__law_signs c.tk (ca_cons (ce_var 1) (ca_cons ce_int ca_nil))))) ca_nil))) (blkOk_by (N := N_law) (sc := (defScope s_law)) (by decide +kernel)) (fun _ _ _ _ _ => (cg_tup rfl (cgs_cons (cg_name 13 sc_law.nd) (cgs_cons (cg_name 14 sc_law.nd) cgs_nil)))) (fun _ _ _ _ _ => cts_nil) (fun _ _ _ _ _ => (ce_tup (ca_cons (ce_ix ix_seq p_ix (cv_of (ce_var 3)) (cv_of (ce_var 13)) (fun _ _ => rfl)) (ca_cons (ce_var 14) ca_nil))))))))))
    (css_cons (O1 := [false, false, false, false, false, false, false, false, false, false, false, false, false, false, false, false, false, false])
    (cs_set 7 sc_law.nd (ce_call ((ok__law_one e).mono (by decide)) c.hr c.hs rfl e.g__law_one e.w__law_one.kp e.b__law_one c.tk (ca_cons (ce_var 1) (ca_cons (ce_lst (ca_cons (ce_lst (ca_cons ce_str (ca_cons ce_str ca_nil))) (ca_cons (ce_lst (ca_cons ce_str (ca_cons ce_str ca_nil))) (ca_cons (ce_lst (ca_cons ce_str (ca_cons ce_str ca_nil))) ca_nil)))) ca_nil))))
    (css_cons (O1 := [false, false, false, false, false, false, false, false, false, false, false, false, false, false, false, false, false, false])
    (cs_set 7 sc_law.nd (ce_of_cn (cn_dict2 ce_str (ce_ix ix_seq p_ix (cv_of (ce_var 7)) (cv_of ce_int) (fun _ _ => rfl)) ce_str (ce_ix ix_seq p_ix (cv_of (ce_var 7)) (cv_of ce_int) (fun _ _ => rfl)))))
    (css_cons (O1 := [false, false, false, false, false, false, false, false, false, false, false, false, false, false, false, false, false, false])
    (cs_set 8 sc_law.nd (ce_call ((ok__law_places e).mono (by decide)) c.hr c.hs rfl e.g__law_places e.w__law_places.kp e.b__law_places c.tk (ca_cons (ce_var 1) (ca_cons (ce_len e.z_len (cv_of (ce_var 5))) ca_nil))))
    (css_cons (O1 := [false, false, false, false, false, false, false, false, false, false, false, false, false, false, false, false, false, false])
    (cs_asg (cf_of (ce_call ((ok_walk e).mono (by decide)) c.hr c.hs rfl e.g_walk e.w_walk.kp e.b_walk c.tk (ca_cons (ce_var 4) (ca_cons (ce_var 5) ca_nil)))) (cg_tup rfl (cgs_cons (cg_name 9 sc_law.nd) (cgs_cons (cg_name 10 sc_law.nd) cgs_nil))))
    (css_cons (O1 := [false, false, false, false, false, false, false, false, false, false, false, false, false, false, false, false, false, false])
    (cs_set 11 sc_law.nd (ce_tup (ca_cons (ce_getK c.hr (ce_var 7) (ce_var 9) (ce_var 9) ⟨rfl, rfl, rfl, rfl⟩) (ca_cons (ce_totup e.z_tuple (cv_of (ce_of_cn (cn_lc rfl sc_law.nd (own := [("_law_path", 15), ("_law_door", 16), ("_law_state", 17)]) (cis_any (cv_of (ce_var 10))) (blkOk_by (N := N_law) (sc := (defScope s_law)) (by decide +kernel)) (fun _ _ _ _ _ => (cg_tup rfl (cgs_cons (cg_name 15 sc_law.nd) (cgs_cons (cg_name 16 sc_law.nd) (cgs_cons (cg_name 17 sc_law.nd) cgs_nil))))) (fun _ _ _ _ _ => cts_nil) (fun _ _ _ _ _ => (ce_tup (ca_cons (ce_var 15) (ca_cons (ce_var 16) (ca_cons (ce_ix ix_seq p_ix (cv_of (ce_var 8)) (cv_of (ce_var 17)) (fun _ _ => rfl)) ca_nil))))))))) ca_nil))))
    (css_cons (O1 := [false, false, false, false, false, false, false, false, false, false, false, false, false, false, false, false, false, false])
    (cs_set 12 sc_law.nd (ce_call ((ok_walk e).mono (by decide)) c.hr c.hs rfl e.g_walk e.w_walk.kp e.b_walk c.tk (ca_cons (ce_call ((ok__law_renamed e 100).mono (by decide)) c.hr c.hs rfl e.g__law_renamed e.w__law_renamed.kp e.b__law_renamed c.tk (ca_cons (ce_var 4) (ca_cons (ce_var 6) ca_nil))) (ca_cons (ce_call ((ok__law_turned e).mono (by decide)) c.hr c.hs rfl e.g__law_turned e.w__law_turned.kp e.b__law_turned c.tk (ca_cons (ce_var 1) (ca_cons (ce_var 5) (ca_cons (ce_var 6) (ca_cons (ce_var 7) (ca_cons (ce_var 8) ca_nil)))))) ca_nil))))
    (css_one (cs_if (O' := [false, false, false, false, false, false, false, false, false, false, false, false, false, false, false, false, false, false]) (ct_cmp (op_neR c.hr) p_eq (cv_of (ce_reprD c.hr c.hs e.z_repr (cv_of (ce_var 12)))) (cv_of (ce_reprD c.hr c.hs e.z_repr (cv_of (ce_var 11)))) (nomark _)) (css_one (cs_ret ce_bl)) css_nil))))))))))))
    (css_one (cs_ret ce_bl))))
end
theorem ql0 : String.length "stop" = 4 := rfl
theorem ql1 : String.length "abcdefghijklmnopqrstuvwxyz" = 26 := rfl
theorem ql2 : String.length "" = 0 := rfl
theorem ql3 : String.length "bdgkpx" = 6 := rfl
theorem ql4 : String.length "go" = 2 := rfl
theorem ql5 : String.length "never" = 5 := rfl
theorem ql6 : String.length "aha" = 3 := rfl
theorem ql7 : String.length "far" = 3 := rfl
theorem ql8 : String.length "b" = 1 := rfl
theorem ql9 : String.length "ffff" = 4 := rfl
theorem ql10 : String.length "law_anymaze_k40_whole_walks_renamed" = 35 := rfl
theorem ql11 : String.length "lost" = 4 := rfl
theorem ql12 : String.length "out" = 3 := rfl
theorem ql13 : String.length "ever" = 4 := rfl
set_option maxHeartbeats 0 in
theorem at_mk {K : PySem.W.Frag} {h : Heap} {mg : Str → Option Value} {fa : Addr} (X : K.In h) (G : h.Ns mainGlobals mg) (hfa : mg "law" = some (.ref fa))
    {f1 : Addr} {od1 an1 : Option Addr} {sl1 : Array (Option Value)} {oc1 kV1 dc1 pm1 cd1 ct1 : Value}
    (a1 : PySem.W.nsIn K mainGlobals "behind_doors" = some (some (.ref f1))) (l1 : K.lookup f1 = some ⟨oc1, od1, .func (PySem.W.fnOf "behind_doors" "behind_doors" (defArgs s_behind_doors) (defBody s_behind_doors) (defScope s_behind_doors) .none kV1 dc1 pm1 an1 cd1 ct1), sl1⟩) (c1 : PySem.W.codeIn K cd1 "behind_doors" = true) (k1 : PySem.W.keepIn K (.ref f1) = true)
    {f2 : Addr} {od2 an2 : Option Addr} {sl2 : Array (Option Value)} {oc2 kV2 dc2 pm2 cd2 ct2 : Value}
    (a2 : PySem.W.nsIn K mainGlobals "room_paths" = some (some (.ref f2))) (l2 : K.lookup f2 = some ⟨oc2, od2, .func (PySem.W.fnOf "room_paths" "room_paths" (defArgs s_room_paths) (defBody s_room_paths) (defScope s_room_paths) .none kV2 dc2 pm2 an2 cd2 ct2), sl2⟩) (c2 : PySem.W.codeIn K cd2 "room_paths" = true) (k2 : PySem.W.keepIn K (.ref f2) = true)
    {f3 : Addr} {od3 an3 : Option Addr} {sl3 : Array (Option Value)} {oc3 kV3 dc3 pm3 cd3 ct3 : Value}
    (a3 : PySem.W.nsIn K mainGlobals "rule_for" = some (some (.ref f3))) (l3 : K.lookup f3 = some ⟨oc3, od3, .func (PySem.W.fnOf "rule_for" "rule_for" (defArgs s_rule_for) (defBody s_rule_for) (defScope s_rule_for) .none kV3 dc3 pm3 an3 cd3 ct3), sl3⟩) (c3 : PySem.W.codeIn K cd3 "rule_for" = true) (k3 : PySem.W.keepIn K (.ref f3) = true)
    {f4 : Addr} {od4 an4 : Option Addr} {sl4 : Array (Option Value)} {oc4 kV4 dc4 pm4 cd4 ct4 : Value}
    (a4 : PySem.W.nsIn K mainGlobals "deed_by" = some (some (.ref f4))) (l4 : K.lookup f4 = some ⟨oc4, od4, .func (PySem.W.fnOf "deed_by" "deed_by" (defArgs s_deed_by) (defBody s_deed_by) (defScope s_deed_by) .none kV4 dc4 pm4 an4 cd4 ct4), sl4⟩) (c4 : PySem.W.codeIn K cd4 "deed_by" = true) (k4 : PySem.W.keepIn K (.ref f4) = true)
    {f5 : Addr} {od5 an5 : Option Addr} {sl5 : Array (Option Value)} {oc5 kV5 dc5 pm5 cd5 ct5 : Value}
    (a5 : PySem.W.nsIn K mainGlobals "deed_at" = some (some (.ref f5))) (l5 : K.lookup f5 = some ⟨oc5, od5, .func (PySem.W.fnOf "deed_at" "deed_at" (defArgs s_deed_at) (defBody s_deed_at) (defScope s_deed_at) .none kV5 dc5 pm5 an5 cd5 ct5), sl5⟩) (c5 : PySem.W.codeIn K cd5 "deed_at" = true) (k5 : PySem.W.keepIn K (.ref f5) = true)
    {f6 : Addr} {od6 an6 : Option Addr} {sl6 : Array (Option Value)} {oc6 kV6 dc6 pm6 cd6 ct6 : Value}
    (a6 : PySem.W.nsIn K mainGlobals "walk" = some (some (.ref f6))) (l6 : K.lookup f6 = some ⟨oc6, od6, .func (PySem.W.fnOf "walk" "walk" (defArgs s_walk) (defBody s_walk) (defScope s_walk) .none kV6 dc6 pm6 an6 cd6 ct6), sl6⟩) (c6 : PySem.W.codeIn K cd6 "walk" = true) (k6 : PySem.W.keepIn K (.ref f6) = true)
    {f7 : Addr} {od7 an7 : Option Addr} {sl7 : Array (Option Value)} {oc7 kV7 dc7 pm7 cd7 ct7 : Value}
    (a7 : PySem.W.nsIn K mainGlobals "_law_deck" = some (some (.ref f7))) (l7 : K.lookup f7 = some ⟨oc7, od7, .func (PySem.W.fnOf "_law_deck" "_law_deck" (defArgs s__law_deck) (defBody s__law_deck) (defScope s__law_deck) .none kV7 dc7 pm7 an7 cd7 ct7), sl7⟩) (c7 : PySem.W.codeIn K cd7 "_law_deck" = true) (k7 : PySem.W.keepIn K (.ref f7) = true)
    {f8 : Addr} {od8 an8 : Option Addr} {sl8 : Array (Option Value)} {oc8 kV8 dc8 pm8 cd8 ct8 : Value}
    (a8 : PySem.W.nsIn K mainGlobals "_law_draw" = some (some (.ref f8))) (l8 : K.lookup f8 = some ⟨oc8, od8, .func (PySem.W.fnOf "_law_draw" "_law_draw" (defArgs s__law_draw) (defBody s__law_draw) (defScope s__law_draw) .none kV8 dc8 pm8 an8 cd8 ct8), sl8⟩) (c8 : PySem.W.codeIn K cd8 "_law_draw" = true) (k8 : PySem.W.keepIn K (.ref f8) = true)
    {f9 : Addr} {od9 an9 : Option Addr} {sl9 : Array (Option Value)} {oc9 kV9 dc9 pm9 cd9 ct9 : Value}
    (a9 : PySem.W.nsIn K mainGlobals "_law_one" = some (some (.ref f9))) (l9 : K.lookup f9 = some ⟨oc9, od9, .func (PySem.W.fnOf "_law_one" "_law_one" (defArgs s__law_one) (defBody s__law_one) (defScope s__law_one) .none kV9 dc9 pm9 an9 cd9 ct9), sl9⟩) (c9 : PySem.W.codeIn K cd9 "_law_one" = true) (k9 : PySem.W.keepIn K (.ref f9) = true)
    {f10 : Addr} {od10 an10 : Option Addr} {sl10 : Array (Option Value)} {oc10 kV10 dc10 pm10 cd10 ct10 : Value}
    (a10 : PySem.W.nsIn K mainGlobals "_law_signs" = some (some (.ref f10))) (l10 : K.lookup f10 = some ⟨oc10, od10, .func (PySem.W.fnOf "_law_signs" "_law_signs" (defArgs s__law_signs) (defBody s__law_signs) (defScope s__law_signs) .none kV10 dc10 pm10 an10 cd10 ct10), sl10⟩) (c10 : PySem.W.codeIn K cd10 "_law_signs" = true) (k10 : PySem.W.keepIn K (.ref f10) = true)
    {f11 : Addr} {od11 an11 : Option Addr} {sl11 : Array (Option Value)} {oc11 kV11 dc11 pm11 cd11 ct11 : Value}
    (a11 : PySem.W.nsIn K mainGlobals "_law_mazes" = some (some (.ref f11))) (l11 : K.lookup f11 = some ⟨oc11, od11, .func (PySem.W.fnOf "_law_mazes" "_law_mazes" (defArgs s__law_mazes) (defBody s__law_mazes) (defScope s__law_mazes) .none kV11 dc11 pm11 an11 cd11 ct11), sl11⟩) (c11 : PySem.W.codeIn K cd11 "_law_mazes" = true) (k11 : PySem.W.keepIn K (.ref f11) = true)
    {f12 : Addr} {od12 an12 : Option Addr} {sl12 : Array (Option Value)} {oc12 kV12 dc12 pm12 cd12 ct12 : Value}
    (a12 : PySem.W.nsIn K mainGlobals "_law_maze" = some (some (.ref f12))) (l12 : K.lookup f12 = some ⟨oc12, od12, .func (PySem.W.fnOf "_law_maze" "_law_maze" (defArgs s__law_maze) (defBody s__law_maze) (defScope s__law_maze) .none kV12 dc12 pm12 an12 cd12 ct12), sl12⟩) (c12 : PySem.W.codeIn K cd12 "_law_maze" = true) (k12 : PySem.W.keepIn K (.ref f12) = true)
    {f13 : Addr} {od13 an13 : Option Addr} {sl13 : Array (Option Value)} {oc13 kV13 dc13 pm13 cd13 ct13 : Value}
    (a13 : PySem.W.nsIn K mainGlobals "_law_robot" = some (some (.ref f13))) (l13 : K.lookup f13 = some ⟨oc13, od13, .func (PySem.W.fnOf "_law_robot" "_law_robot" (defArgs s__law_robot) (defBody s__law_robot) (defScope s__law_robot) .none kV13 dc13 pm13 an13 cd13 ct13), sl13⟩) (c13 : PySem.W.codeIn K cd13 "_law_robot" = true) (k13 : PySem.W.keepIn K (.ref f13) = true)
    {f14 : Addr} {od14 an14 : Option Addr} {sl14 : Array (Option Value)} {oc14 kV14 dc14 pm14 cd14 ct14 : Value}
    (a14 : PySem.W.nsIn K mainGlobals "_law_renamed" = some (some (.ref f14))) (l14 : K.lookup f14 = some ⟨oc14, od14, .func (PySem.W.fnOf "_law_renamed" "_law_renamed" (defArgs s__law_renamed) (defBody s__law_renamed) (defScope s__law_renamed) .none kV14 dc14 pm14 an14 cd14 ct14), sl14⟩) (c14 : PySem.W.codeIn K cd14 "_law_renamed" = true) (k14 : PySem.W.keepIn K (.ref f14) = true)
    {f15 : Addr} {od15 an15 : Option Addr} {sl15 : Array (Option Value)} {oc15 kV15 dc15 pm15 cd15 ct15 : Value}
    (a15 : PySem.W.nsIn K mainGlobals "_law_turned" = some (some (.ref f15))) (l15 : K.lookup f15 = some ⟨oc15, od15, .func (PySem.W.fnOf "_law_turned" "_law_turned" (defArgs s__law_turned) (defBody s__law_turned) (defScope s__law_turned) .none kV15 dc15 pm15 an15 cd15 ct15), sl15⟩) (c15 : PySem.W.codeIn K cd15 "_law_turned" = true) (k15 : PySem.W.keepIn K (.ref f15) = true)
    {f16 : Addr} {od16 an16 : Option Addr} {sl16 : Array (Option Value)} {oc16 kV16 dc16 pm16 cd16 ct16 : Value}
    (a16 : PySem.W.nsIn K mainGlobals "_law_places" = some (some (.ref f16))) (l16 : K.lookup f16 = some ⟨oc16, od16, .func (PySem.W.fnOf "_law_places" "_law_places" (defArgs s__law_places) (defBody s__law_places) (defScope s__law_places) .none kV16 dc16 pm16 an16 cd16 ct16), sl16⟩) (c16 : PySem.W.codeIn K cd16 "_law_places" = true) (k16 : PySem.W.keepIn K (.ref f16) = true)
    {f17 : Addr} {od17 an17 : Option Addr} {sl17 : Array (Option Value)} {oc17 kV17 dc17 pm17 cd17 ct17 : Value}
    (a17 : PySem.W.nsIn K mainGlobals "law" = some (some (.ref f17))) (l17 : K.lookup f17 = some ⟨oc17, od17, .func (PySem.W.fnOf "law" "law" (defArgs s_law) (defBody s_law) (defScope s_law) .none kV17 dc17 pm17 an17 cd17 ct17), sl17⟩) (c17 : PySem.W.codeIn K cd17 "law" = true) (k17 : PySem.W.keepIn K (.ref f17) = true)
    (z_abs : PySem.W.nsIn K mainGlobals "abs" = some none)
    (z_dict : PySem.W.nsIn K mainGlobals "dict" = some none)
    (z_enumerate : PySem.W.nsIn K mainGlobals "enumerate" = some none)
    (z_int : PySem.W.nsIn K mainGlobals "int" = some none)
    (z_len : PySem.W.nsIn K mainGlobals "len" = some none)
    (z_list : PySem.W.nsIn K mainGlobals "list" = some none)
    (z_range : PySem.W.nsIn K mainGlobals "range" = some none)
    (z_repr : PySem.W.nsIn K mainGlobals "repr" = some none)
    (z_reversed : PySem.W.nsIn K mainGlobals "reversed" = some none)
    (z_sum : PySem.W.nsIn K mainGlobals "sum" = some none)
    (z_tuple : PySem.W.nsIn K mainGlobals "tuple" = some none)
    {t_EVER : Tok} (v_EVER : PySem.W.nsIn K mainGlobals "EVER" = some (some (.str "ever" t_EVER)))
    {t_LOST : Tok} (v_LOST : PySem.W.nsIn K mainGlobals "LOST" = some (some (.str "lost" t_LOST)))
    {t_OUT : Tok} (v_OUT : PySem.W.nsIn K mainGlobals "OUT" = some (some (.str "out" t_OUT)))
    : ∃ e : At K mg, e.f_law = fa := by
  cases hfa.symm.trans (PySem.W.mg_of X G a17)
  have w1 := fun_mk (st := s_behind_doors) l1 c1 k1
  have b1 := w1.binds (ps := ["path", "branches"]) fun _ _ _ _ _ _ us hl => match us, hl with | [_, _], _ => rfl
  have w2 := fun_mk (st := s_room_paths) l2 c2 k2
  have b2 := w2.binds (ps := ["maze"]) fun _ _ _ _ _ _ us hl => match us, hl with | [_], _ => rfl
  have w3 := fun_mk (st := s_rule_for) l3 c3 k3
  have b3 := w3.binds (ps := ["robot", "state", "sign", "doors"]) fun _ _ _ _ _ _ us hl => match us, hl with | [_, _, _, _], _ => rfl
  have w4 := fun_mk (st := s_deed_by) l4 c4 k4
  have b4 := w4.binds (ps := ["robot", "state", "rule"]) fun _ _ _ _ _ _ us hl => match us, hl with | [_, _, _], _ => rfl
  have w5 := fun_mk (st := s_deed_at) l5 c5 k5
  have b5 := w5.binds (ps := ["robot", "state", "sign", "doors"]) fun _ _ _ _ _ _ us hl => match us, hl with | [_, _, _, _], _ => rfl
  have w6 := fun_mk (st := s_walk) l6 c6 k6
  have b6 := w6.binds (ps := ["maze", "robot"]) fun _ _ _ _ _ _ us hl => match us, hl with | [_, _], _ => rfl
  have w7 := fun_mk (st := s__law_deck) l7 c7 k7
  have b7 := w7.binds (ps := ["_law_script"]) fun _ _ _ _ _ _ us hl => match us, hl with | [_], _ => rfl
  have w8 := fun_mk (st := s__law_draw) l8 c8 k8
  have b8 := w8.binds (ps := ["_law_deck_here", "_law_many"]) fun _ _ _ _ _ _ us hl => match us, hl with | [_, _], _ => rfl
  have w9 := fun_mk (st := s__law_one) l9 c9 k9
  have b9 := w9.binds (ps := ["_law_deck_here", "_law_items"]) fun _ _ _ _ _ _ us hl => match us, hl with | [_, _], _ => rfl
  have w10 := fun_mk (st := s__law_signs) l10 c10 k10
  have b10 := w10.binds (ps := ["_law_deck_here", "_law_many"]) fun _ _ _ _ _ _ us hl => match us, hl with | [_, _], _ => rfl
  have w11 := fun_mk (st := s__law_mazes) l11 c11 k11
  have b11 := w11.binds (ps := ["_law_deck_here", "_law_kind", "_law_many", "_law_most"]) fun _ _ _ _ _ _ us hl => match us, hl with | [_, _, _, _], _ => rfl
  have w12 := fun_mk (st := s__law_maze) l12 c12 k12
  have b12 := w12.binds (ps := ["_law_deck_here", "_law_signs_here", "_law_most"]) fun _ _ _ _ _ _ us hl => match us, hl with | [_, _, _], _ => rfl
  have w13 := fun_mk (st := s__law_robot) l13 c13 k13
  have b13 := w13.binds (ps := ["_law_deck_here", "_law_signs_here", "_law_words", "_law_most"]) fun _ _ _ _ _ _ us hl => match us, hl with | [_, _, _, _], _ => rfl
  have w14 := fun_mk (st := s__law_renamed) l14 c14 k14
  have b14 := w14.binds (ps := ["_law_maze_here", "_law_names"]) fun _ _ _ _ _ _ us hl => match us, hl with | [_, _], _ => rfl
  have w15 := fun_mk (st := s__law_turned) l15 c15 k15
  have b15 := w15.binds (ps := ["_law_deck_here", "_law_robot_here", "_law_names", "_law_words", "_law_places_here"]) fun _ _ _ _ _ _ us hl => match us, hl with | [_, _, _, _, _], _ => rfl
  have w16 := fun_mk (st := s__law_places) l16 c16 k16
  have b16 := w16.binds (ps := ["_law_deck_here", "_law_many"]) fun _ _ _ _ _ _ us hl => match us, hl with | [_, _], _ => rfl
  have w17 := fun_mk (st := s_law) l17 c17 k17
  have b17 := w17.binds (ps := ["_law_script"]) fun _ _ _ _ _ _ us hl => match us, hl with | [_], _ => rfl
  exact ⟨{ f_behind_doors := _, d_behind_doors := _, w_behind_doors := w1, b_behind_doors := b1, g_behind_doors := PySem.W.mg_of X G a1, f_room_paths := _, d_room_paths := _, w_room_paths := w2, b_room_paths := b2, g_room_paths := PySem.W.mg_of X G a2, f_rule_for := _, d_rule_for := _, w_rule_for := w3, b_rule_for := b3, g_rule_for := PySem.W.mg_of X G a3, f_deed_by := _, d_deed_by := _, w_deed_by := w4, b_deed_by := b4, g_deed_by := PySem.W.mg_of X G a4, f_deed_at := _, d_deed_at := _, w_deed_at := w5, b_deed_at := b5, g_deed_at := PySem.W.mg_of X G a5, f_walk := _, d_walk := _, w_walk := w6, b_walk := b6, g_walk := PySem.W.mg_of X G a6, f__law_deck := _, d__law_deck := _, w__law_deck := w7, b__law_deck := b7, g__law_deck := PySem.W.mg_of X G a7, f__law_draw := _, d__law_draw := _, w__law_draw := w8, b__law_draw := b8, g__law_draw := PySem.W.mg_of X G a8, f__law_one := _, d__law_one := _, w__law_one := w9, b__law_one := b9, g__law_one := PySem.W.mg_of X G a9, f__law_signs := _, d__law_signs := _, w__law_signs := w10, b__law_signs := b10, g__law_signs := PySem.W.mg_of X G a10, f__law_mazes := _, d__law_mazes := _, w__law_mazes := w11, b__law_mazes := b11, g__law_mazes := PySem.W.mg_of X G a11, f__law_maze := _, d__law_maze := _, w__law_maze := w12, b__law_maze := b12, g__law_maze := PySem.W.mg_of X G a12, f__law_robot := _, d__law_robot := _, w__law_robot := w13, b__law_robot := b13, g__law_robot := PySem.W.mg_of X G a13, f__law_renamed := _, d__law_renamed := _, w__law_renamed := w14, b__law_renamed := b14, g__law_renamed := PySem.W.mg_of X G a14, f__law_turned := _, d__law_turned := _, w__law_turned := w15, b__law_turned := b15, g__law_turned := PySem.W.mg_of X G a15, f__law_places := _, d__law_places := _, w__law_places := w16, b__law_places := b16, g__law_places := PySem.W.mg_of X G a16, f_law := _, d_law := _, w_law := w17, b_law := b17, g_law := PySem.W.mg_of X G a17, z_abs := PySem.W.mg_none_of X G z_abs, z_dict := PySem.W.mg_none_of X G z_dict, z_enumerate := PySem.W.mg_none_of X G z_enumerate, z_int := PySem.W.mg_none_of X G z_int, z_len := PySem.W.mg_none_of X G z_len, z_list := PySem.W.mg_none_of X G z_list, z_range := PySem.W.mg_none_of X G z_range, z_repr := PySem.W.mg_none_of X G z_repr, z_reversed := PySem.W.mg_none_of X G z_reversed, z_sum := PySem.W.mg_none_of X G z_sum, z_tuple := PySem.W.mg_none_of X G z_tuple, t_EVER := t_EVER, c_EVER := PySem.W.mg_of X G v_EVER, t_LOST := t_LOST, c_LOST := PySem.W.mg_of X G v_LOST, t_OUT := t_OUT, c_OUT := PySem.W.mg_of X G v_OUT }, rfl⟩
theorem walk (yes : ∀ ns : List Int, ns.length ≤ 63 → ∃ S, F_law [.scr ns] [] = .ok (.d (.bool true)) S) {q : Program} {loose : List Str} {XP : (Str → Option Value) → Heap → Prop} {YP : World → Heap → Prop} {d : DefRec} {K : Params → PySem.W.Frag} (nod : d.params.defaults = []) (ino : importsNone q = true)
    (kin : ∀ (w : World) (h : Heap), YP w h → (K w.params).In h)
    (F : ∀ (w : World) (mg : Str → Option Value) (fa : Addr) (h : Heap), (K w.params).In h → h.Ns mainGlobals mg → mg d.name = some (.ref fa) → ∃ e : At (K w.params) mg, e.f_law = fa) :
    PySem.W.WalkO q loose XP YP PySem.Challenge.rw_anymaze_k40_whole_walks_renamed.row.toRowW d [] (fun f vs => PySem.call f vs) :=
  walk_to (n := 63) (k := 102) (x := "_law_script") rfl (by decide) nod ino ⟨rfl, by decide, by decide⟩ kin (fun w mg fa h a b c => by
    obtain ⟨e, rfl⟩ := F w mg fa h a b c
    exact ⟨e.d_law, e.b_law, fun base _ _ => ok_law e⟩) yes
local macro_rules
  | `(tactic| walk_at "go") => `(tactic| simp only [sSeq, ssat_next, ssat_toS, ssat_nx, ssat_rt, ssat_bk, ssat_ct, ssat_bad, ssat_ite, if_false_right, sat_ok, sat_bad, sat_exc, sat_bind, sat_ite, sPutO, sPutI, sPutD, eD, ownD, sAsg, fE, sIf, sNx, sRet, sDrop, sOwn, sApp, sExt, sPar, sFor, e1, e2, eV, eC, eA, eA1, aC, aN, eSl, oN, oS, eP, eM1, eIf, eCall, eChain, eJ, jC, jN, bB, bTr, bAnd, bOr, bNot, eAnd, eOr, eNot, bYes, iSeq, iA, ofG, ofO, fmtV, strV, tupleV, listV, iaddV, PD.eq_int, PD.eq_str, eq_self, gSet, ggNil, ggCons, ggTup, mkTup, mkLst, mkObj, asDs, asD, ownL,
      List.map_cons, List.map_nil, List.cons_append, List.nil_append, List.length_cons, List.length_nil, List.length_set, List.replicate, List.getElem?_cons_succ, List.getElem?_cons_zero, List.getElem?_nil, List.set_cons_succ, List.set_cons_zero, List.all_cons, List.all_nil, setAll, Option.map_some, Option.map_none, Option.bind_some, Option.bind_none,
      ixV, addV, subV, mulV, modV, divV, powV, negV, lenV, intV, absI, enumV, iterV, PD.slV, boolV, truthV, ltD, revA, ltV, gtV, leV, geV, isV, isNone, L2.atI, ixN, Bool.false_xor, Bool.true_xor, Bool.not_true, Bool.not_false, Bool.and_true, Bool.true_and, Bool.and_false, Bool.false_and, decide_true, decide_false, decide_eq_true_eq, Bool.and_eq_true, if_true, if_false, reduceIte, Bool.false_eq_true, Str.empty_append, List.length_append, ite_true, ite_false, true_and, and_true, Int.cast_ofNat_Int, Nat.reduceAdd, Nat.reduceSub, Nat.reduceLT, Int.reduceLT, Int.reduceLE, Int.reduceToNat, Nat.lt_add_one])
local macro_rules
  | `(tactic| walk_at "g0") => `(tactic| simp only [sSeq, ssat_next, ssat_toS, ssat_nx, ssat_rt, ssat_bk, ssat_ct, ssat_bad, ssat_ite, if_false_right, sat_ok, sat_bad, sat_exc, sat_bind, sat_ite, sPutO, sPutI, sPutD, eD, ownD, sAsg, fE, sIf, sNx, sRet, sDrop, sOwn, sApp, sExt, sPar, sFor, e1, e2, eV, eC, eA, eA1, aC, aN, eSl, oN, oS, eP, eM1, eIf, eCall, eChain, eJ, jC, jN, bB, bTr, bAnd, bOr, bNot, eAnd, eOr, eNot, bYes, iSeq, iA, ofG, ofO, fmtV, strV, tupleV, listV, iaddV, PD.eq_int, PD.eq_str, eq_self, gSet, ggNil, ggCons, ggTup, mkTup, mkLst, mkObj, asDs, asD, ownL,
      List.map_cons, List.map_nil, List.cons_append, List.nil_append, List.length_cons, List.length_nil, List.length_set, List.replicate, List.getElem?_cons_succ, List.getElem?_cons_zero, List.getElem?_nil, List.set_cons_succ, List.set_cons_zero, List.all_cons, List.all_nil, setAll, ixT0, ixT1, ixT2, ixL0, ixL1, ixL2, Option.map_some, Option.map_none, Option.bind_some, Option.bind_none,
      addV, subV, mulV, modV, divV, powV, negV, lenV, intV, absI, enumV, iterV, PD.slV, boolV, truthV, ltD, revA, ltV, gtV, leV, geV, isV, isNone, Bool.false_xor, Bool.true_xor, Bool.not_true, Bool.not_false, Bool.and_true, Bool.true_and, Bool.and_false, Bool.false_and, decide_true, decide_false, decide_eq_true_eq, Bool.and_eq_true, if_true, if_false, reduceIte, Bool.false_eq_true, Str.empty_append, List.length_append, ite_true, ite_false, true_and, and_true, Int.cast_ofNat_Int, Nat.reduceAdd, Nat.reduceSub, Nat.reduceLT, Int.reduceLT, Int.reduceLE, Int.reduceToNat, Nat.lt_add_one])
local macro_rules
  | `(tactic| walk_at "g1") => `(tactic| simp only [sSeq, ssat_next, ssat_toS, ssat_nx, ssat_rt, ssat_bk, ssat_ct, ssat_bad, ssat_ite, if_false_right, sat_ok, sat_bad, sat_exc, sat_bind, sat_ite, sPutO, sPutI, sPutD, eD, ownD, sAsg, fE, sIf, sNx, sRet, sDrop, sOwn, sApp, sExt, sPar, sFor, e1, e2, eV, eC, eA, eA1, aC, aN, eSl, oN, oS, eP, eM1, eIf, eCall, eChain, eJ, jC, jN, bB, bTr, bAnd, bOr, bNot, eAnd, eOr, eNot, bYes, iSeq, iA, ofG, ofO, fmtV, strV, tupleV, listV, iaddV, PD.eq_int, PD.eq_str, eq_self, gSet, ggNil, ggCons, ggTup, mkTup, mkLst, mkObj, asDs, asD, ownL,
      List.map_cons, List.map_nil, List.cons_append, List.nil_append, List.length_cons, List.length_nil, List.length_set, List.replicate, List.getElem?_cons_succ, List.getElem?_cons_zero, List.getElem?_nil, List.set_cons_succ, List.set_cons_zero, List.all_cons, List.all_nil, setAll, ixT0, ixT1, ixT2, ixL0, ixL1, ixL2, Option.map_some, Option.map_none, Option.bind_some, Option.bind_none,
      addV, subV, mulV, modV, divV, powV, negV, lenV, intV, absI, enumV, iterV, PD.slV, boolV, truthV, ltD, revA, ltV, gtV, leV, geV, isV, isNone, Bool.false_xor, Bool.true_xor, Bool.not_true, Bool.not_false, Bool.and_true, Bool.true_and, Bool.and_false, Bool.false_and, decide_true, decide_false, decide_eq_true_eq, Bool.and_eq_true, if_true, if_false, reduceIte, Bool.false_eq_true, Str.empty_append, List.length_append, ite_true, ite_false, true_and, and_true, Int.cast_ofNat_Int, Nat.reduceAdd, Nat.reduceSub, Nat.reduceLT, Int.reduceLT, Int.reduceSub, Int.reduceAdd, Int.reduceNeg, Int.reduceLE, Int.reduceToNat, Nat.lt_add_one])
local macro_rules
  | `(tactic| walk_at "g") => `(tactic| simp only [sSeq, ssat_next, ssat_toS, ssat_nx, ssat_rt, ssat_bk, ssat_ct, ssat_bad, ssat_ite, if_false_right, sat_ok, sat_bad, sat_exc, sat_bind, sat_ite, sPutO, sPutI, sPutD, sAug, eD, ownD, sAsg, fE, sIf, sNx, sRet, sDrop, sOwn, sApp, sExt, sPar, sFor, e1, e2, eV, eC, eA, eA1, aC, aN, eSl, oN, oS, eP, eM1, eIf, eCall, eChain, eJ, jC, jN, bB, bTr, bAnd, bOr, bNot, eAnd, eOr, eNot, bYes, iSeq, iA, ofG, ofO, fmtV, strV, tupleV, listV, iaddV, PD.eq_int, PD.eq_str, eq_self, gSet, ggNil, ggCons, ggTup, mkTup, mkLst, mkObj, asDs, asD, ownL,
      List.map_cons, List.map_nil, List.cons_append, List.nil_append, List.length_cons, List.length_nil, List.length_set, List.replicate, List.getElem?_cons_succ, List.getElem?_cons_zero, List.getElem?_nil, List.set_cons_succ, List.set_cons_zero, List.all_cons, List.all_nil, setAll, ixT0, ixT1, ixT2, ixL0, ixL1, ixL2, Option.map_some, Option.map_none, Option.bind_some, Option.bind_none,
      addV, subV, mulW, mulV, modV, divV, powV, negV, lenV, intV, absI, enumV, iterV, PD.slV, boolV, truthV, ltD, revA, ltV, gtV, leV, geV, isV, isNone, Bool.false_xor, Bool.true_xor, Bool.not_true, Bool.not_false, Bool.and_true, Bool.true_and, Bool.and_false, Bool.false_and, decide_true, decide_false, decide_eq_true_eq, Bool.and_eq_true, if_true, if_false, reduceIte, Bool.false_eq_true, Str.empty_append, List.length_append, ite_true, ite_false, true_and, and_true, Int.cast_ofNat_Int, Nat.reduceAdd, Nat.reduceSub, Nat.reduceLT, Int.reduceLT, Int.reduceSub, Int.reduceAdd, Int.reduceNeg, Int.reduceLE, Int.reduceToNat, Nat.lt_add_one, beq_iff_eq, sizeLine_eq, Nat.reduceLeDiff, inV_tup, inV_lst, eqv_str, eqv_int, eqV_nilT, cutD_tail, false_and, and_false, or_true, true_or, or_false, false_or, ixT3, Bool.true_eq_false, Bool.or_eq_false_iff, decide_eq_false_iff_not, Int.not_le, Int.not_lt, beq_self_eq_true, Int.reduceBEq, Bool.not_eq_eq_eq_not, beq_eq_false_iff_ne, ne_eq, not_true_eq_false, not_false_eq_true, List.isEmpty_cons, List.isEmpty_nil, List.any_cons, List.any_nil, Bool.or_false, Bool.or_eq_true, isaV, PyData.isInt, PyData.isStr, PyData.isBool, PyData.isTuple, PyData.isList, PyData.isDict, m__law_renamed_1_E, m__law_renamed_E, m__law_turned_1_E, m__law_turned_3_E, m__law_turned_5_E, m__law_turned_6_E, m__law_turned_8_E, m__law_turned_7_E, m__law_turned_4_E, m__law_turned_9_E, m__law_turned_2_E, m__law_turned_10_E, m__law_turned_E, m__law_places_1_E, m__law_places_3_E, m__law_places_2_E, m__law_places_4_E, m__law_places_E, m_law_1_E, m_law_3_E, m_law_4_E, m_law_5_E, m_law_6_E, m_law_7_E, m_law_8_E, m_law_9_E, m_law_10_E, m_law_11_E, m_law_13_E, m_law_12_E, m_law_2_E, m_law_14_E, m_law_E])
local macro_rules
  | `(tactic| walk_at "gt") => `(tactic| try walk_at "go")
local macro_rules
  | `(tactic| walk_at "gq") => `(tactic| try walk_at "g0")
local macro_rules
  | `(tactic| walk_at "len") => `(tactic| (simp only [Str.length_append, PySem.ofString_length, len_nil, sizeLine_eq, ql0, ql1, ql2, ql3, ql4, ql5, ql6, ql7, ql8, ql9, ql10, ql11, ql12, ql13] at *; omega))
local macro_rules
  | `(tactic| walk_at "fin") => `(tactic| ((repeat' apply And.intro) <;> first | assumption | exact True.intro | walk_at "len" | rfl))
local macro_rules
  | `(tactic| walk_at "start") => `(tactic| (rw [sat_body]; simp only [List.map_cons, List.map_nil, List.cons_append, List.nil_append, List.length_cons, List.length_nil, Nat.reduceAdd, Nat.reduceSub, List.replicate]))
local macro_rules
  | `(tactic| walk_at "wd") => `(tactic| first | assumption | exact Wd.none | exact Wd.bool | exact Wd.small (by decide) (by decide) | exact Wd.lit (by decide) | exact Wd.dict0 | exact Wd.tup Wds.nil | exact Wd.lst Wds.nil | (refine Wd.t1 (k := 2) (a := 990) ?_ (by decide) <;> walk_at "wd") | (refine Wd.t2 (k := 2) (a := 990) (b := 990) ?_ ?_ (by decide) <;> walk_at "wd") | (refine Wd.t3 (k := 2) (a := 990) (b := 990) (c := 990) ?_ ?_ ?_ (by decide) <;> walk_at "wd") | (refine Wd.t4 (k := 2) (a := 990) (b := 990) (c := 990) (e := 990) ?_ ?_ ?_ ?_ (by decide) <;> walk_at "wd") | (refine Wd.t1 (k := 1) (a := 240) ?_ (by decide) <;> walk_at "wd") | (refine Wd.t2 (k := 1) (a := 240) (b := 240) ?_ ?_ (by decide) <;> walk_at "wd") | (refine Wd.t3 (k := 1) (a := 240) (b := 240) (c := 240) ?_ ?_ ?_ (by decide) <;> walk_at "wd") | (refine Wd.t4 (k := 1) (a := 240) (b := 240) (c := 240) (e := 240) ?_ ?_ ?_ ?_ (by decide) <;> walk_at "wd") | (refine Wd.t1 (k := 0) (a := 55) ?_ (by decide) <;> walk_at "wd") | (refine Wd.t2 (k := 0) (a := 55) (b := 55) ?_ ?_ (by decide) <;> walk_at "wd") | (refine Wd.t3 (k := 0) (a := 55) (b := 55) (c := 55) ?_ ?_ ?_ (by decide) <;> walk_at "wd") | (refine Wd.t4 (k := 0) (a := 55) (b := 55) (c := 55) (e := 55) ?_ ?_ ?_ ?_ (by decide) <;> walk_at "wd"))
local macro_rules
  | `(tactic| walk_at "c") => `(tactic| simp only [eFld, sFldS, sAppO, eMeth, eMake, sSeq, ssat_next, ssat_toS, ssat_nx, ssat_rt, ssat_bk, ssat_ct, ssat_bad, ssat_ite, if_false_right, sat_ok, sat_bad, sat_exc, sat_bind, sat_ite, sPutO, sPutI, sPutD, sAug, eD, ownD, sAsg, fE, sIf, sNx, sRet, sDrop, sOwn, sApp, sExt, sPar, sFor, e1, e2, eV, eC, eA, eA1, aC, aN, eSl, oN, oS, eP, eM1, eIf, eCall, eChain, eJ, jC, jN, bB, bTr, bAnd, bOr, bNot, eAnd, eOr, eNot, bYes, iSeq, iA, ofG, ofO, fmtV, strV, tupleV, listV, iaddV, PD.eq_int, PD.eq_str, eq_self, gSet, ggNil, ggCons, ggTup, mkTup, mkLst, mkObj, asDs, asD, ownL,
      List.map_cons, List.map_nil, List.cons_append, List.nil_append, List.length_cons, List.length_nil, List.length_set, List.replicate, List.getElem?_cons_succ, List.getElem?_cons_zero, List.getElem?_nil, List.set_cons_succ, List.set_cons_zero, List.all_cons, List.all_nil, setAll, ixT0, ixT1, ixT2, ixL0, ixL1, ixL2, Option.map_some, Option.map_none, Option.bind_some, Option.bind_none,
      addV, subV, mulW, mulV, modV, divV, powV, negV, lenV, intV, absI, enumV, iterV, PD.slV, boolV, truthV, ltD, revA, ltV, gtV, leV, geV, isV, isNone, Bool.false_xor, Bool.true_xor, Bool.not_true, Bool.not_false, Bool.and_true, Bool.true_and, Bool.and_false, Bool.false_and, decide_true, decide_false, decide_eq_true_eq, Bool.and_eq_true, if_true, if_false, reduceIte, Bool.false_eq_true, Str.empty_append, List.length_append, ite_true, ite_false, true_and, and_true, Int.cast_ofNat_Int, Nat.reduceAdd, Nat.reduceSub, Nat.reduceLT, Int.reduceLT, Int.reduceSub, Int.reduceAdd, Int.reduceNeg, Int.reduceLE, Int.reduceToNat, Nat.lt_add_one, beq_iff_eq, sizeLine_eq, Nat.reduceLeDiff, inV_tup, inV_lst, eqv_str, eqv_int, eqV_nilT, cutD_tail, false_and, and_false, or_true, true_or, or_false, false_or, ixT3, Bool.true_eq_false, Bool.or_eq_false_iff, decide_eq_false_iff_not, Int.not_le, Int.not_lt, beq_self_eq_true, Int.reduceBEq, Bool.not_eq_eq_eq_not, beq_eq_false_iff_ne, ne_eq, not_true_eq_false, not_false_eq_true, List.isEmpty_cons, List.isEmpty_nil, List.any_cons, List.any_nil, Bool.or_false, Bool.or_eq_true, isaV, PyData.isInt, PyData.isStr, PyData.isBool, PyData.isTuple, PyData.isList, PyData.isDict, m__law_renamed_1_E, m__law_renamed_E, m__law_turned_1_E, m__law_turned_3_E, m__law_turned_5_E, m__law_turned_6_E, m__law_turned_8_E, m__law_turned_7_E, m__law_turned_4_E, m__law_turned_9_E, m__law_turned_2_E, m__law_turned_10_E, m__law_turned_E, m__law_places_1_E, m__law_places_3_E, m__law_places_2_E, m__law_places_4_E, m__law_places_E, m_law_1_E, m_law_3_E, m_law_4_E, m_law_5_E, m_law_6_E, m_law_7_E, m_law_8_E, m_law_9_E, m_law_10_E, m_law_11_E, m_law_13_E, m_law_12_E, m_law_2_E, m_law_14_E, m_law_E])
theorem erase_perm {α : Type} : ∀ {xs : List α} {i : Nat} (h : i < xs.length), (xs[i] :: xs.eraseIdx i).Perm xs
  | x :: xs, 0, h => List.Perm.refl _
  | x :: xs, i + 1, h => by
    simp only [List.getElem_cons_succ, List.eraseIdx_cons_succ]
    exact (List.Perm.swap x _ _).trans (List.Perm.cons x (erase_perm (by simpa using h)))
theorem erase_map {α β : Type} (f : α → β) : ∀ {xs : List α} {i : Nat}, (xs.eraseIdx i).map f = (xs.map f).eraseIdx i
  | [], _ => rfl
  | x :: xs, 0 => rfl
  | x :: xs, i + 1 => by simp only [List.eraseIdx_cons_succ, List.map_cons, erase_map f]
theorem ixK_ok {nd : List (PyData × PyData)} {x d : PyData} {S : Store} (ha : allK nd = true) (hk : (keyK x).isSome = true) (h : dgetK nd x = some d) : ixKV (.d (.dict nd)) (.d x) S = .ok (.d d) S := by
  simp only [ixKV]
  rw [ha, hk, h]
  rfl
theorem renamed_eq {f : Str → Str} {ss : List Str} {nd : List (PyData × PyData)} (ha : allK nd = true) (hn : ∀ s ∈ ss, dgetK nd (.str s) = some (.str (f s))) : ∀ (k : Nat) (m : Maze) (S : Store), m.size ≤ k → m.Wf → m.Sgn ss → F__law_renamed k [.d m.d, .d (.dict nd)] S = .ok (.d (Maze.ren f m).d) S
  | 0, m, S, hf, _, _ => by have := m.size_pos; omega
  | k + 1, .mk s bs, S, hf, w, hs => by
    have sz : sizeLine = 16777216 := sizeLine_eq
    have two := w.two
    refine sat_eq ?_
    rw [F__law_renamed, Maze.d]
    walk_at "start"
    simp only [m__law_renamed_, m__law_renamed_1_]
    walk_at "g0"
    rw [ixK_ok ha rfl (hn s hs.root)]
    walk_at "g0"
    simp only [eLc]
    walk_at "g0"
    rw [Maze.ds_map, comp_map (f := fun b => (Maze.ren f b).d) (fun b hb => ⟨_, rfl, by
      refine sat_eq ?_
      simp only [wipeF]
      walk_at "g0"
      rw [renamed_eq ha hn k b _ (by
        have := Maze.kid_size hb
        rw [Maze.size] at hf
        omega) (w.mem hb) (hs.kid hb)]
      try walk_at "g0"⟩) (by rw [sz]; simp; omega)]
    walk_at "g0"
    rw [Maze.ren, Maze.d, Maze.rens_map, Maze.ds_map, List.map_map]
    exact ⟨by rw [sz]; decide, rfl⟩
theorem places_ok {n many : Int} {S : Store} {rest : Store} (D : Deck rest n S) (hn : n ≤ 800000000) (h0 : 1 ≤ many) (h1 : many ≤ 100) :
    (F__law_places [.obj 1, .d (.int many)] S).sat (fun v S' => ∃ ps : List Int, v = .d (.list (ps.map .int)) ∧ ps.length = many.toNat ∧ ps.Nodup ∧ (∀ x ∈ ps, 0 ≤ x ∧ x < many) ∧ ps[0]? = some 0 ∧ Deck rest (n + many) S') NoX := by
  have sz : sizeLine = 16777216 := sizeLine_eq
  unfold F__law_places
  walk_at "start"
  simp only [m__law_places, m__law_places_1]
  walk_at "g0"
  have er : lstRgV (.d (.int 1)) (.d (.int many)) S = .ok (.d (.list (((List.range (many - 1).toNat).map fun i => 1 + ((i : Nat) : Int)).map .int))) S := by
    simp only [lstRgV]
    rw [if_pos (by simp; omega), List.map_map]
    rfl
  rw [er]
  walk_at "g0"
  refine ⟨by rw [sz]; decide, ?_⟩
  refine ssat_mid (fun fr S' => ∃ ps : List Int, ps.length = many.toNat ∧ ps.Nodup ∧ (∀ x ∈ ps, 0 ≤ x ∧ x < many) ∧ ps[0]? = some 0 ∧ Deck rest (n + many) S' ∧ ∃ x2, fr = [some (.obj 1), some (.d (.int many)), x2, some (.d (.list (ps.map .int)))]) ?_ ?_
  · simp only [m__law_places_2, sWhile]
    refine ssat_while (fun k fr S' => ∃ L Fd : List Int, L.length = k ∧ (Fd ++ L).length = many.toNat ∧ (Fd ++ L).Nodup ∧ (∀ x ∈ Fd ++ L, 0 ≤ x ∧ x < many) ∧ Fd[0]? = some 0 ∧ Deck rest (n + Fd.length) S' ∧ fr = [some (.obj 1), some (.d (.int many)), some (.d (.list (L.map .int))), some (.d (.list (Fd.map .int)))]) (fun k fr S' ⟨L, Fd, hk, hl, nd, hr, h0', D, e⟩ => ?_) (many - 1).toNat fuel (by unfold fuel; omega) ⟨(List.range (many - 1).toNat).map fun i => 1 + ((i : Nat) : Int), [0], by simp, by simp; omega, ?_, ?_, rfl, D.mono (by simp; omega), rfl⟩
    · subst e
      walk_at "g0"
      rw [eq_nilL0]
      walk_at "g0"
      cases hL : L with
      | nil =>
        subst hL
        simp only [List.map_nil, List.isEmpty_nil]
        walk_at "g0"
        rw [List.append_nil] at hl nd hr
        refine ⟨by rw [sz]; decide, Fd, hl, nd, hr, h0', D.mono (by omega), _, rfl⟩
      | cons a t =>
        rw [← hL]
        have lL : 1 ≤ L.length := by rw [hL]; simp
        have hl2 := hl
        rw [List.length_append] at hl2
        rw [show (L.map PyData.int).isEmpty = false by rw [hL]; rfl]
        walk_at "g0"
        refine ⟨by rw [sz]; decide, ?_⟩
        simp only [m__law_places_3, sAppF, fPopAt]
        walk_at "g0"
        refine (draw_ok D (by omega) (by rw [List.length_map]; omega) (by rw [List.length_map]; omega)).on fun v S2 ⟨q, e, q0, q1, D⟩ => ?_
        subst e
        rw [List.length_map] at q1
        have hq : q.toNat < L.length := by omega
        have ei : ixN (L.map PyData.int).length q = some q.toNat := by
          unfold ixN
          rw [if_pos q0, if_pos (by rw [List.length_map]; exact q1)]
        simp only [ei]
        have eg : (L.map PyData.int)[q.toNat]? = some (.int L[q.toNat]) := by rw [List.getElem?_map, List.getElem?_eq_getElem hq]; rfl
        simp only [eg]
        rw [if_pos (by rw [sz, List.length_map]; omega)]
        walk_at "g0"
        have pm : (L[q.toNat] :: L.eraseIdx q.toNat).Perm L := erase_perm hq
        have pm2 : (Fd ++ [L[q.toNat]] ++ L.eraseIdx q.toNat).Perm (Fd ++ L) := by
          rw [List.append_assoc]
          exact List.Perm.append_left Fd pm
        have le : (L.eraseIdx q.toNat).length = L.length - 1 := by rw [List.length_eraseIdx, if_pos hq]
        refine ⟨by rw [sz, List.length_map]; omega, L.length - 1, by omega, L.eraseIdx q.toNat, Fd ++ [L[q.toNat]], le, by have := pm2.length_eq; rw [List.length_append] at this; rw [this]; exact hl, pm2.nodup_iff.mpr nd, fun x hx => hr x (pm2.mem_iff.mp hx), ?_, ?_, ?_⟩
        · rw [List.getElem?_append_left (by
            cases Fd with
            | nil => cases h0'
            | cons _ _ => simp)]
          exact h0'
        · rw [List.length_append, List.length_singleton]
          exact D.mono (by omega)
        · rw [List.map_append]
          rw [show (L.eraseIdx q.toNat).map PyData.int = (L.map PyData.int).eraseIdx q.toNat from erase_map _]
          rfl
    · rw [List.singleton_append, List.nodup_cons]
      refine ⟨fun h => ?_, ?_⟩
      · obtain ⟨i, _, e⟩ := List.mem_map.mp h
        omega
      · rw [List.Nodup, List.pairwise_map]
        exact List.Pairwise.imp (fun {a b} h => by omega) (List.nodup_range (n := (many - 1).toNat))
    · intro x hx
      rcases List.mem_cons.mp hx with rfl | hx
      · omega
      · obtain ⟨i, hi, rfl⟩ := List.mem_map.mp hx
        have := List.mem_range.mp hi
        omega
  · rintro fr S' ⟨ps, p1, p2, p3, p4, D, x2, e⟩
    subst e
    simp only [m__law_places_4]
    walk_at "g0"
    exact ⟨ps, rfl, p1, p2, p3, p4, D⟩
section
variable {f g : Str → Str} {ss : List Str} {nd wd : List (PyData × PyData)} {R : Rob} {ps : List Int}
def plOf (ps : List Int) (x : Int) : Int := ps.getD x.toNat 0
theorem turn_rules {n : Int} {S : Store} {rest : Store} {j : Nat} {rs : List Rl} {a5 x8 x9 x10 x11 : Option SV} {p : Po} (D : Deck rest n S) (hn : n ≤ 800000000) (hj : R[j]? = some rs) (l6 : rs.length ≤ 6) (hw : ∀ r ∈ rs, r.Wf R.length)
    (n1 : allK nd = true) (n2 : ∀ s ∈ ss, dgetK nd (.str s) = some (.str (f s))) (w1 : allK wd = true) (w2 : ∀ w : Str, w = "aha" ∨ w = "far" → dgetK wd (.str w) = some (.str (g w)) ∧ Tx 20 (g w))
    (hsg : ∀ r ∈ rs, ∀ t, r.sg = some t → t ∈ ss) (hwd : ∀ r ∈ rs, ∀ w, r.dd = .stop w → w = "aha" ∨ w = "far") (fx : ∀ s ∈ ss, Tx 20 (f s))
    (pl : ps.length = R.length) (pr : ∀ x ∈ ps, 0 ≤ x ∧ x < R.length)
    (hf : ∀ (Q : List Rl) (S' : Store) (x8 x9 x10 x11 : Option SV), TurnL f g (plOf ps) rs Q → Q.length ≤ 6 → (∀ r ∈ Q, r.Wf R.length) → Deck rest (n + rs.length) S' →
      p.nx [some (.obj 1), some (.d (robD R)), some (.d (.dict nd)), some (.d (.dict wd)), some (.d (.list (ps.map .int))), a5, some (.d (.int (j : Nat))), some (.d (.list (Q.map Rl.d))), x8, x9, x10, x11] S') :
    (forF (ggTup 3 (ggCons (gSet 8) (ggCons (gSet 9) (ggCons (gSet 10) ggNil)))) (sSeq m__law_turned_5 (sSeq m__law_turned_6 m__law_turned_7)) (rs.map (SV.d ∘ Rl.d)) [some (.obj 1), some (.d (robD R)), some (.d (.dict nd)), some (.d (.dict wd)), some (.d (.list (ps.map .int))), a5, some (.d (.int (j : Nat))), some (.d (.list [])), x8, x9, x10, x11] S).sat p := by
  have sz : sizeLine = 16777216 := sizeLine_eq
  refine ssat_each (enc := SV.d ∘ Rl.d) (fun dn fr S' => ∃ (Q : List Rl) (x8 x9 x10 x11 : Option SV), TurnL f g (plOf ps) dn Q ∧ Q.length ≤ (if rs.length < 4 then 2 * dn.length else dn.length) ∧ (∀ r ∈ Q, r.Wf R.length) ∧ Deck rest (n + dn.length) S' ∧ fr = [some (.obj 1), some (.d (robD R)), some (.d (.dict nd)), some (.d (.dict wd)), some (.d (.list (ps.map .int))), a5, some (.d (.int (j : Nat))), some (.d (.list (Q.map Rl.d))), x8, x9, x10, x11]) ⟨[], _, _, _, _, .nil, by simp, by simp, by simpa using D, rfl⟩ (fun dn r more e fr S' ⟨Q, x8, x9, x10, x11, tu, ql, qw, D, e1⟩ => ?_) (fun fr S' ⟨Q, x8, x9, x10, x11, tu, ql, qw, D, e1⟩ => ?_)
  · subst e1
    have hr : r ∈ rs := by rw [e]; simp
    have dnl : dn.length < rs.length := by rw [e]; simp
    have wr := hw r hr
    obtain ⟨sg, dr, dd⟩ := r
    have q12 : Q.length ≤ 12 := by split at ql <;> omega
    refine ⟨_, rfl, ?_⟩
    have m5 : ∀ x11, m__law_turned_5 [some (.obj 1), some (.d (robD R)), some (.d (.dict nd)), some (.d (.dict wd)), some (.d (.list (ps.map .int))), a5, some (.d (.int (j : Nat))), some (.d (.list (Q.map Rl.d))), some (.d (optS sg)), some (.d (optI dr)), some (.d dd.d), x11] S' = .nx [some (.obj 1), some (.d (robD R)), some (.d (.dict nd)), some (.d (.dict wd)), some (.d (.list (ps.map .int))), a5, some (.d (.int (j : Nat))), some (.d (.list (Q.map Rl.d))), some (.d (optS sg)), some (.d (optI dr)), some (.d dd.d), some (.d (renDeed g (plOf ps) dd).d)] S' := fun x11 => by
      have key : (eIf (bB (e2 (eqV false) (e2 ixV (eV 10) (eC (.int 0))) (eC (.str "stop")))) (eA mkTup (aC (eC (.str "stop")) (aC (e2 ixKV (eV 3) (e2 ixV (eV 10) (eC (.int 1)))) (aN)))) (eA mkTup (aC (eC (.str "go")) (aC (e2 ixV (eV 10) (eC (.int 1))) (aC (e2 ixV (eV 4) (e2 ixV (eV 10) (eC (.int 2)))) (aN)))))) [some (.obj 1), some (.d (robD R)), some (.d (.dict nd)), some (.d (.dict wd)), some (.d (.list (ps.map .int))), a5, some (.d (.int (j : Nat))), some (.d (.list (Q.map Rl.d))), some (.d (optS sg)), some (.d (optI dr)), some (.d dd.d), x11] S' = .ok (.d (renDeed g (plOf ps) dd).d) S' := by
        refine sat_eq ?_
        cases dd with
        | stop w =>
          simp only [Deed.d]
          walk_at "g0"
          rw [ixK_ok w1 rfl (w2 w (hwd _ hr w rfl)).1]
          walk_at "g0"
          exact ⟨by rw [sz]; decide, rfl⟩
        | go a b =>
          have hb : 0 ≤ b ∧ b < R.length := by
            have := wr.dd
            simp only [Deed.Wf] at this
            omega
          simp only [Deed.d]
          walk_at "g0"
          rw [if_neg (by decide +kernel), ix_getL hb.1 (by rw [List.length_map]; omega)]
          walk_at "g0"
          refine ⟨by rw [sz]; decide, ?_⟩
          simp only [renDeed, plOf, List.getElem_map]
          rw [List.getD_eq_getElem?_getD, List.getElem?_eq_getElem (by omega)]
          rfl
      unfold m__law_turned_5 sAsg fE
      rw [key]
      rfl
    simp only [List.set_cons_succ, List.set_cons_zero]
    simp only [sSeq]
    rw [ssat_next, m5, ssat_nx]
    simp only
    have wd' : (renDeed g (plOf ps) dd).Wf R.length := by
      have := wr.dd
      cases dd with
      | stop w => exact (w2 w (hwd _ hr w rfl)).2
      | go a b =>
        simp only [Deed.Wf] at this
        have hb : b.toNat < ps.length := by omega
        have := pr (ps[b.toNat]) (List.getElem_mem hb)
        simp only [renDeed, Deed.Wf, plOf, List.getD_eq_getElem?_getD, List.getElem?_eq_getElem hb, Option.getD_some]
        omega
    have nw : Rl.Wf R.length ⟨sg.map f, dr, renDeed g (plOf ps) dd⟩ := ⟨fun s hs => by
      cases sg with
      | none => cases hs
      | some t => cases hs; exact fx t (hsg _ hr t rfl), wr.dr, wd'⟩
    have m6 : ∀ S, m__law_turned_6 [some (.obj 1), some (.d (robD R)), some (.d (.dict nd)), some (.d (.dict wd)), some (.d (.list (ps.map .int))), a5, some (.d (.int (j : Nat))), some (.d (.list (Q.map Rl.d))), some (.d (optS sg)), some (.d (optI dr)), some (.d dd.d), some (.d (renDeed g (plOf ps) dd).d)] S = .nx [some (.obj 1), some (.d (robD R)), some (.d (.dict nd)), some (.d (.dict wd)), some (.d (.list (ps.map .int))), a5, some (.d (.int (j : Nat))), some (.d (.list ((Q ++ [(⟨sg.map f, dr, renDeed g (plOf ps) dd⟩ : Rl)]).map Rl.d))), some (.d (optS sg)), some (.d (optI dr)), some (.d dd.d), some (.d (renDeed g (plOf ps) dd).d)] S := fun S => by
      have key : (eA mkTup (aC (eIf (bB (e2 (isV false) (eV 8) (eC .none))) (eC .none) (e2 ixKV (eV 2) (eV 8))) (aC (eV 9) (aC (eV 11) (aN))))) [some (.obj 1), some (.d (robD R)), some (.d (.dict nd)), some (.d (.dict wd)), some (.d (.list (ps.map .int))), a5, some (.d (.int (j : Nat))), some (.d (.list (Q.map Rl.d))), some (.d (optS sg)), some (.d (optI dr)), some (.d dd.d), some (.d (renDeed g (plOf ps) dd).d)] S = .ok (.d (Rl.d ⟨sg.map f, dr, renDeed g (plOf ps) dd⟩)) S := by
        refine sat_eq ?_
        cases sg with
        | none =>
          simp only [optS]
          walk_at "g0"
          exact ⟨by rw [sz]; decide, rfl⟩
        | some t =>
          simp only [optS]
          walk_at "g0"
          rw [ixK_ok n1 rfl (n2 t (hsg _ hr t rfl))]
          walk_at "g0"
          exact ⟨by rw [sz]; decide, rfl⟩
      unfold m__law_turned_6 sApp
      simp only [ownL, List.getElem?_cons_succ, List.getElem?_cons_zero]
      rw [key]
      have : (Q.map Rl.d).length < sizeLine := by rw [List.length_map, sz]; omega
      simp only [Rs.toS, this, if_true, List.set_cons_succ, List.set_cons_zero, List.map_append, List.map_cons, List.map_nil]
    rw [ssat_next, m6, ssat_nx]
    simp only
    have ixr : ixV (.d (robD R)) (.d (.int (j : Nat))) S' = .ok (.d (stD rs)) S' := by
      obtain ⟨hjl, hje⟩ := List.getElem?_eq_some_iff.mp hj
      rw [show robD R = .tuple (R.map stD) from rfl, ix_get (by omega) (by rw [List.length_map]; omega)]
      simp only [List.getElem_map, Int.toNat_natCast, hje]
    simp only [m__law_turned_7]
    walk_at "g0"
    refine (draw_ok D (by omega) (by decide) (by decide)).on fun v S2 ⟨q, e', q0, q1, D⟩ => ?_
    subst e'
    rw [PD.eq_int]
    walk_at "g0"
    have ixr2 : ∀ S, ixV (.d (robD R)) (.d (.int (j : Nat))) S = .ok (.d (stD rs)) S := fun S => by
      obtain ⟨hjl, hje⟩ := List.getElem?_eq_some_iff.mp hj
      rw [show robD R = .tuple (R.map stD) from rfl, ix_get (by omega) (by rw [List.length_map]; omega)]
      simp only [List.getElem_map, Int.toNat_natCast, hje]
    have fin1 : TurnL f g (plOf ps) (dn ++ [⟨sg, dr, dd⟩]) (Q ++ [⟨sg.map f, dr, renDeed g (plOf ps) dd⟩]) := .one tu
    have qw1 : ∀ r ∈ Q ++ [(⟨sg.map f, dr, renDeed g (plOf ps) dd⟩ : Rl)], r.Wf R.length := fun r hr => by
      rcases List.mem_append.mp hr with z | z
      · exact qw r z
      · rw [List.mem_singleton.mp z]; exact nw
    have D2 : Deck rest (n + ((dn.length + 1 : Nat) : Int)) S2 := D.mono (by omega)
    have qb : (Q ++ [(⟨sg.map f, dr, renDeed g (plOf ps) dd⟩ : Rl)]).length ≤ if rs.length < 4 then 2 * (dn.length + 1) else dn.length + 1 := by
      rw [List.length_append, List.length_singleton]
      by_cases c : rs.length < 4
      · rw [if_pos c] at ql ⊢; omega
      · rw [if_neg c] at ql ⊢; omega
    by_cases hq : q = 0
    · rw [show (q == 0) = true by rw [hq]; rfl]
      walk_at "g0"
      rw [ixr2, show stD rs = .tuple (rs.map Rl.d) from rfl]
      walk_at "g0"
      rw [List.length_map]
      by_cases c : rs.length < 4
      · rw [if_pos (by omega)]
        rw [if_pos c] at ql
        simp only [m__law_turned_8]
        rw [List.map_append, List.map_cons, List.map_nil]
        have lst : ∀ S, ixV (.d (.list (Q.map Rl.d ++ [Rl.d ⟨sg.map f, dr, renDeed g (plOf ps) dd⟩]))) (.d (.int (-1))) S = .ok (.d (Rl.d ⟨sg.map f, dr, renDeed g (plOf ps) dd⟩)) S := fun S => ix_last
        have i0 : ∀ S, ixV (.d (Rl.d ⟨sg.map f, dr, renDeed g (plOf ps) dd⟩)) (.d (.int 0)) S = .ok (.d (optS (sg.map f))) S := fun S => rfl
        have i1 : ∀ S, ixV (.d (Rl.d ⟨sg.map f, dr, renDeed g (plOf ps) dd⟩)) (.d (.int 1)) S = .ok (.d (optI dr)) S := fun S => rfl
        walk_at "g0"
        rw [lst]
        walk_at "g0"
        rw [i0]
        walk_at "g0"
        rw [lst]
        walk_at "g0"
        rw [i1]
        walk_at "g0"
        refine ⟨by rw [sz]; decide, by rw [sz]; decide, by rw [sz, List.length_map]; omega, Q ++ [⟨sg.map f, dr, renDeed g (plOf ps) dd⟩, ⟨sg.map f, dr, .stop "never"⟩], some (.d (optS sg)), some (.d (optI dr)), some (.d dd.d), some (.d (renDeed g (plOf ps) dd).d), .two tu, ?_, fun r hr => ?_, D2, ?_⟩
        · rw [List.length_append, if_pos c]
          simp only [List.length_cons, List.length_nil]
          omega
        · rcases List.mem_append.mp hr with z | z
          · exact qw r z
          · simp only [List.mem_cons, List.not_mem_nil, or_false] at z
            rcases z with rfl | rfl
            · exact nw
            · exact ⟨nw.sg, nw.dr, Tx.lit⟩
        · rw [List.map_append, List.append_assoc]
          rfl
      · rw [if_neg (by omega)]
        exact ⟨_, _, _, _, _, fin1, qb, qw1, D2, rfl⟩
    · rw [show (q == 0) = false by simp [hq]]
      walk_at "g0"
      exact ⟨_, _, _, _, _, fin1, qb, qw1, D2, rfl⟩
  · subst e1
    exact hf Q S' _ _ _ _ tu (by split at ql <;> omega) qw D
theorem turned_ok {n : Int} {S : Store} {rest : Store} (D : Deck rest n S) (hn : n ≤ 700000000) (hR : RobWf R)
    (n1 : allK nd = true) (n2 : ∀ s ∈ ss, dgetK nd (.str s) = some (.str (f s))) (w1 : allK wd = true) (w2 : ∀ w : Str, w = "aha" ∨ w = "far" → dgetK wd (.str w) = some (.str (g w)) ∧ Tx 20 (g w))
    (hsg : ∀ rs ∈ R, ∀ r ∈ rs, ∀ t, r.sg = some t → t ∈ ss) (hwd : ∀ rs ∈ R, ∀ r ∈ rs, ∀ w, r.dd = .stop w → w = "aha" ∨ w = "far") (fx : ∀ s ∈ ss, Tx 20 (f s))
    (pl : ps.length = R.length) (pn : ps.Nodup) (pr : ∀ x ∈ ps, 0 ≤ x ∧ x < R.length) :
    (F__law_turned [.obj 1, .d (robD R), .d (.dict nd), .d (.dict wd), .d (.list (ps.map .int))] S).sat (fun v S' => ∃ R' : Rob, v = .d (robD R') ∧ R'.length = R.length ∧ (∀ rs ∈ R', rs.length ≤ 6 ∧ ∀ r ∈ rs, r.Wf R.length) ∧
      (∀ q : Nat, q < R.length → TurnL f g (plOf ps) (R.getD q []) (R'.getD (plOf ps (q : Nat)).toNat [])) ∧ Deck rest (n + 6 * R.length) S') NoX := by
  have sz : sizeLine = 16777216 := sizeLine_eq
  have few := hR.few
  unfold F__law_turned
  walk_at "start"
  simp only [m__law_turned, m__law_turned_1]
  rw [show robD R = .tuple (R.map stD) from rfl]
  walk_at "g0"
  refine ⟨by rw [sz]; decide, by rw [sz]; decide, ?_⟩
  have er : repL (.d (.list [.tuple []])) (.d (.int ((R.map stD).length : Nat))) S = .ok (.d (.list ((List.replicate R.length ([] : List Rl)).map stD))) S := by
    simp only [repL]
    rw [List.length_map, if_pos (by simp; rw [sz]; omega)]
    simp only [Int.toNat_natCast, List.flatten_replicate_singleton, List.map_replicate]
    rfl
  rw [er]
  walk_at "g0"
  simp only [m__law_turned_2]
  walk_at "g0"
  rw [List.length_map, rng1_ok (by omega) (by omega)]
  walk_at "g0"
  have pget : ∀ q : Nat, q < R.length → plOf ps (q : Nat) ∈ ps ∧ ps[q]? = some (plOf ps (q : Nat)) := fun q hq => by
    have : q < ps.length := by omega
    simp only [plOf, Int.toNat_natCast, List.getD_eq_getElem?_getD, List.getElem?_eq_getElem this, Option.getD_some]
    exact ⟨List.getElem_mem this, trivial⟩
  refine ssat_rng (fun j fr S' => ∃ (F : List (List Rl)) (x6 x7 x8 x9 x10 x11 : Option SV), F.length = R.length ∧ (∀ rs ∈ F, rs.length ≤ 6 ∧ ∀ r ∈ rs, r.Wf R.length) ∧ (∀ q : Nat, q < j → TurnL f g (plOf ps) (R.getD q []) (F.getD (plOf ps (q : Nat)).toNat [])) ∧ Deck rest (n + 6 * j) S' ∧
      fr = [some (.obj 1), some (.d (robD R)), some (.d (.dict nd)), some (.d (.dict wd)), some (.d (.list (ps.map .int))), some (.d (.list (F.map stD))), x6, x7, x8, x9, x10, x11]) ⟨_, _, _, _, _, _, _, by simp, fun rs h => by rw [(List.mem_replicate.mp h).2]; simp, fun q h => by omega, by simpa using D, rfl⟩
    (fun j fr S' hj ⟨F, x6, x7, x8, x9, x10, x11, fl, fw, ft, D, e⟩ => ?_) (fun fr S' ⟨F, x6, x7, x8, x9, x10, x11, fl, fw, ft, D, e⟩ => ?_)
  · subst e
    have hjR : j < R.length := by omega
    have hje : R[j]? = some R[j] := List.getElem?_eq_getElem hjR
    obtain ⟨l6, hw⟩ := hR.st R[j] (List.getElem_mem hjR)
    refine ⟨_, rfl, ?_⟩
    simp only [m__law_turned_3]
    walk_at "g0"
    refine ⟨Nat.zero_le _, ?_⟩
    simp only [m__law_turned_4]
    rw [show robD R = .tuple (R.map stD) from rfl]
    walk_at "g0"
    rw [ix_get (by omega) (by rw [List.length_map]; omega)]
    simp only [List.getElem_map, Int.toNat_natCast]
    rw [show stD R[j] = .tuple (R[j].map Rl.d) from rfl]
    walk_at "g0"
    rw [show (PyData.tuple (R.map stD)) = robD R from rfl, List.map_map]
    refine turn_rules (ss := ss) (rs := R[j]) D (by omega) hje l6 hw n1 n2 w1 w2 (hsg _ (List.getElem_mem hjR)) (hwd _ (List.getElem_mem hjR)) fx pl pr (fun Q S' x8 x9 x10 x11 tu q6 qw D => ?_)
    simp only [m__law_turned_9]
    walk_at "g0"
    obtain ⟨pm, pe⟩ := pget j hjR
    have pj := pr _ pm
    have ixp : ixV (.d (.list (ps.map PyData.int))) (.d (.int (j : Nat))) S' = .ok (.d (.int (plOf ps (j : Nat)))) S' := by
      rw [ix_getL (by omega) (by rw [List.length_map]; omega)]
      simp only [List.getElem_map, Int.toNat_natCast]
      rw [List.getElem?_eq_getElem (by omega)] at pe
      rw [Option.some.inj pe]
    rw [ixp]
    walk_at "g0"
    have ei : ixN (F.map stD).length (plOf ps (j : Nat)) = some (plOf ps (j : Nat)).toNat := by
      unfold ixN
      rw [if_pos pj.1, if_pos (by rw [List.length_map]; omega)]
    simp only [ei]
    have ec : PD.cutD (Q.map Rl.d) none (some 6) = Q.map Rl.d := by
      rw [show (some 6 : Option Int) = some ((6 : Nat) : Int) from rfl, cut_take, List.take_of_length_le (by rw [List.length_map]; exact q6)]
    rw [ec, ssat_nx]
    have ek : (plOf ps (j : Nat)).toNat < F.length := by omega
    refine ⟨F.set (plOf ps (j : Nat)).toNat Q, some (.d (.int (j : Nat))), some (.d (.list (Q.map Rl.d))), x8, x9, x10, x11, by rw [List.length_set]; exact fl, fun rs hrs => ?_, fun q hq => ?_, D.mono (by
      have : (R[j].length : Int) ≤ 6 := by omega
      omega), ?_⟩
    · rcases List.mem_or_eq_of_mem_set hrs with z | z
      · exact fw rs z
      · rw [z]; exact ⟨q6, qw⟩
    · by_cases z : q = j
      · subst z
        rw [List.getD_eq_getElem?_getD, List.getElem?_eq_getElem hjR, List.getD_eq_getElem?_getD, List.getElem?_set_self ek]
        exact tu
      · have hqj : q < j := by omega
        have hne : (plOf ps (q : Nat)).toNat ≠ (plOf ps (j : Nat)).toNat := fun y => by
          obtain ⟨pm2, pe2⟩ := pget q (by omega)
          have p2 := pr _ pm2
          have e3 : plOf ps (q : Nat) = plOf ps (j : Nat) := by omega
          rw [e3, ← pe] at pe2
          exact z ((List.getElem?_inj (by omega) pn).mp pe2)
        have := ft q hqj
        rw [List.getD_eq_getElem?_getD (l := F.set _ _), List.getElem?_set_ne (fun y => hne y.symm), ← List.getD_eq_getElem?_getD]
        exact this
    · rw [List.map_set]
      rfl
  · subst e
    simp only [m__law_turned_10]
    walk_at "g0"
    exact ⟨F, rfl, fl, fw, fun q hq => ft q (by omega), D.mono (by omega)⟩
end
theorem rob_parts {signs words : List Str} {ds : List PyData} {R : Rob} {n : Nat} (h : ∀ d ∈ ds, StateD (signs.map .str) (words.map .str) n d) (e : PyData.tuple ds = robD R) : ∀ rs ∈ R, ∀ r ∈ rs, (∀ t, r.sg = some t → t ∈ signs) ∧ ∀ w, r.dd = .stop w → w ∈ words := by
  intro rs hrs r hr
  have hd : stD rs ∈ ds := by
    have : ds = R.map stD := by injection e
    rw [this]
    exact List.mem_map_of_mem hrs
  have hs := h _ hd
  generalize hst : stD rs = d at hs
  cases hs with
  | mk hp hl =>
    rename_i rules
    have e2 : rs.map Rl.d = rules := by
      simp only [stD] at hst
      injection hst
    have hrd := hp r.d (by rw [← e2]; exact List.mem_map_of_mem hr)
    obtain ⟨sg, dr, dd⟩ := r
    generalize hrr : Rl.d ⟨sg, dr, dd⟩ = d2 at hrd
    cases hrd with
    | mk h1 h2 h3 =>
      simp only [Rl.d] at hrr
      injection hrr with hrr
      injection hrr with ha hrr
      injection hrr with _ hrr
      injection hrr with hc _
      refine ⟨fun t ht => ?_, fun w hw => ?_⟩
      · simp only at ht
        subst ht
        simp only [optS] at ha
        cases h1 with
        | any => cases ha
        | some hm =>
          rw [← ha] at hm
          obtain ⟨s, hs, es⟩ := List.mem_map.mp hm
          cases es
          exact hs
      · simp only at hw
        subst hw
        simp only [Deed.d] at hc
        cases h3 with
        | go _ _ _ _ =>
          injection hc with hc
          injection hc with hc _
          injection hc with hc
          exact absurd hc (by decide +kernel)
        | stop hm =>
          injection hc with hc
          injection hc with _ hc
          injection hc with hc _
          rw [← hc] at hm
          obtain ⟨s, hs, es⟩ := List.mem_map.mp hm
          cases es
          exact hs
theorem sgn_of {signs : List Str} : ∀ {p : List Int} {m b : Maze}, m.Of (allShapes signs) → Maze.at? m p = some b → b.sign ∈ signs
  | [], .mk s bs, b, h, e => by
    rw [Maze.at?] at e
    rw [← Option.some.inj e]
    rw [Maze.Of] at h
    obtain ⟨t, ht, e2⟩ := List.mem_flatMap.mp h.1
    simp only [List.mem_cons, List.not_mem_nil, or_false, Prod.mk.injEq] at e2
    have : s = t := by rcases e2 with q | q | q <;> exact q.1
    rw [Maze.sign, this]
    exact ht
  | k :: p, .mk s bs, b, h, e => by
    obtain ⟨c, _, _, ec, h'⟩ := Maze.at_some e
    rw [Maze.Of] at h
    exact sgn_of (Maze.ofs_all.mp h.2 c (List.mem_of_getElem? ec)) h'
theorem sign_ne {l r : Str} {i k : Nat} (hi : i < 3) (hk : k < 3) (h : signAt l r i = signAt l r k) : i = k := by
  have e : ∀ j, (signAt l r j).cps.toList = l.cps.toList ++ ([(Str.ofString "bdgkpx").cps.toList.getD j 0] ++ r.cps.toList) := fun j => by
    show (((l.cps ++ #[(Str.ofString "bdgkpx").cps.toList.getD j 0]) ++ r.cps).toList) = _
    simp
  have h2 := congrArg (fun s : Str => s.cps.toList) h
  simp only [e] at h2
  have h3 := List.append_cancel_right (List.append_cancel_left h2)
  have h4 : (Str.ofString "bdgkpx").cps.toList.getD i 0 = (Str.ofString "bdgkpx").cps.toList.getD k 0 := by simpa using h3
  have e0 : (Str.ofString "bdgkpx").cps.toList.getD 0 0 = 98 := by decide +kernel
  have e1 : (Str.ofString "bdgkpx").cps.toList.getD 1 0 = 100 := by decide +kernel
  have e2 : (Str.ofString "bdgkpx").cps.toList.getD 2 0 = 103 := by decide +kernel
  rcases i with _ | _ | _ | i <;> rcases k with _ | _ | _ | k <;> first | rfl | omega | (simp only [Nat.zero_add, Nat.reduceAdd, e0, e1, e2] at h4; omega)
theorem law_true (ns : List Int) (h : ns.length ≤ 63) : ∃ S, F_law [.scr ns] [] = .ok (.d (.bool true)) S := by
  have sz : sizeLine = 16777216 := sizeLine_eq
  obtain ⟨S0, e0, D0⟩ := deck_ok ns h
  suffices q : (F_law [.scr ns] []).sat (fun v S => v = .d (.bool true)) NoX by
    obtain ⟨v, S, e, q⟩ := q.ex
    exact ⟨S, by rw [e, q]⟩
  unfold F_law
  walk_at "start"
  simp only [m_law, m_law_1]
  walk_at "g0"
  rw [e0]
  walk_at "g0"
  simp only [m_law_2]
  walk_at "g0"
  rw [rng1_ok (by decide) (by decide)]
  walk_at "g0"
  refine ssat_rng (fun j fr S => ∃ x2 x3 x4 x5 x6 x7 x8 x9 x10 x11 x12 x13 x14 x15 x16 x17, fr = [some (.scr ns), some (.obj 1), x2, x3, x4, x5, x6, x7, x8, x9, x10, x11, x12, x13, x14, x15, x16, x17] ∧ Deck [] (3000 * j) S) ⟨_, _, _, _, _, _, _, _, _, _, _, _, _, _, _, _, rfl, by simpa using D0⟩ (fun j fr S hj ⟨x2, x3, x4, x5, x6, x7, x8, x9, x10, x11, x12, x13, x14, x15, x16, x17, e, D⟩ => ?_) (fun fr S ⟨x2, x3, x4, x5, x6, x7, x8, x9, x10, x11, x12, x13, x14, x15, x16, x17, e, D⟩ => ?_)
  · subst e
    refine ⟨_, rfl, ?_⟩
    simp only [m_law_3]
    walk_at "g0"
    refine (signs_ok D (by omega) (by decide) (by decide)).on fun v S ⟨l, r, hl, hr, e, D⟩ => ?_
    subst e
    have sn : ∀ k, k < 6 → Sn (signAt l r k) := fun k hk => sign_sn hl hr (by omega)
    obtain ⟨ts, ets⟩ : ∃ ts, ts = [signAt l r 0, signAt l r 1, signAt l r 2] := ⟨_, rfl⟩
    have so : signsOf l r (3 : Int).toNat = ts.map PyData.str := by rw [ets]; rfl
    rw [so]
    have ht : ∀ t ∈ ts, Sn t := fun t h => by
      rw [ets] at h
      simp only [List.mem_cons, List.not_mem_nil, or_false] at h
      rcases h with rfl | rfl | rfl
      · exact sn 0 (by decide)
      · exact sn 1 (by decide)
      · exact sn 2 (by decide)
    simp only [m_law_4]
    walk_at "g0"
    have tl3 : ts.length = 3 := by rw [ets]; rfl
    have tne : ts ≠ [] := fun z => by rw [z] at tl3; cases tl3
    refine (maze_ok D (by omega) ht tne (by omega) (by decide) (by decide)).on fun v S ⟨m, e, mo, mz, D⟩ => ?_
    subst e
    have mw : m.Wf := mo.wf (allShapes_kd ht tne (by omega))
    have ms : m.Sgn ts := fun p b hb => sgn_of mo hb
    have ews : ([PyData.str (Str.ofString "aha"), PyData.str (Str.ofString "far")] : List PyData) = (["aha", "far"] : List Str).map PyData.str := rfl
    walk_at "gq"
    refine ⟨by rw [sz]; decide, ?_⟩
    rw [ews]
    refine (robot_ok D (by omega) (by decide) (by decide) (by simpa using tne) (by simp; omega) (by simp) (by simp)).on fun v S ⟨ds, e, d1, d4, hd, D⟩ => ?_
    subst e
    obtain ⟨R, wf, eR, lR⟩ := rob_of hd d1 (by omega) (fun x hx => by
      obtain ⟨s, hs, rfl⟩ := List.mem_map.mp hx
      exact ⟨s, rfl, (ht s hs).tx.mono (by decide)⟩) (fun x hx => by
      obtain ⟨s, hs, rfl⟩ := List.mem_map.mp hx
      simp only [List.mem_cons, List.not_mem_nil, or_false] at hs
      rcases hs with rfl | rfl
      · exact ⟨_, rfl, Tx.lit⟩
      · exact ⟨_, rfl, Tx.lit⟩)
    have hp := rob_parts hd eR
    rw [eR]
    walk_at "gq"
    simp only [m_law_5]
    walk_at "g0"
    simp only [eLc]
    walk_at "g0"
    refine (signs_ok D (by omega) (by decide) (by decide)).on fun v S ⟨l2, r2, hl2, hr2, e, D⟩ => ?_
    subst e
    have sn2 : ∀ k, k < 6 → Sn (signAt l2 r2 k) := fun k hk => sign_sn hl2 hr2 (by omega)
    rw [show signsOf l2 r2 (3 : Int).toNat = [PyData.str (signAt l2 r2 0), .str (signAt l2 r2 1), .str (signAt l2 r2 2)] from rfl]
    walk_at "g0"
    obtain ⟨s0, es0⟩ : ∃ s0, s0 = signAt l r 0 := ⟨_, rfl⟩
    obtain ⟨s1, es1⟩ : ∃ s1, s1 = signAt l r 1 := ⟨_, rfl⟩
    obtain ⟨s2, es2⟩ : ∃ s2, s2 = signAt l r 2 := ⟨_, rfl⟩
    obtain ⟨u0, eu0⟩ : ∃ u0, u0 = signAt l2 r2 0 := ⟨_, rfl⟩
    obtain ⟨u1, eu1⟩ : ∃ u1, u1 = signAt l2 r2 1 := ⟨_, rfl⟩
    obtain ⟨u2, eu2⟩ : ∃ u2, u2 = signAt l2 r2 2 := ⟨_, rfl⟩
    have n01 : s0 ≠ s1 := fun z => absurd (sign_ne (i := 0) (k := 1) (by decide) (by decide) (by rw [← es0, ← es1]; exact z)) (by decide)
    have n02 : s0 ≠ s2 := fun z => absurd (sign_ne (i := 0) (k := 2) (by decide) (by decide) (by rw [← es0, ← es2]; exact z)) (by decide)
    have n12 : s1 ≠ s2 := fun z => absurd (sign_ne (i := 1) (k := 2) (by decide) (by decide) (by rw [← es1, ← es2]; exact z)) (by decide)
    have v01 : u0 ≠ u1 := fun z => absurd (sign_ne (i := 0) (k := 1) (by decide) (by decide) (by rw [← eu0, ← eu1]; exact z)) (by decide)
    have v02 : u0 ≠ u2 := fun z => absurd (sign_ne (i := 0) (k := 2) (by decide) (by decide) (by rw [← eu0, ← eu2]; exact z)) (by decide)
    have v12 : u1 ≠ u2 := fun z => absurd (sign_ne (i := 1) (k := 2) (by decide) (by decide) (by rw [← eu1, ← eu2]; exact z)) (by decide)
    have w0 : Sn u0 := by rw [eu0]; exact sn2 0 (by decide)
    have w1 : Sn u1 := by rw [eu1]; exact sn2 1 (by decide)
    have w2 : Sn u2 := by rw [eu2]; exact sn2 2 (by decide)
    rw [← es0, ← es1, ← es2] at ets
    rw [← eu0, ← eu1, ← eu2]
    rw [show enumL [PyData.str u0, .str u1, .str u2].reverse = (([(0, u2), (1, u1), (2, u0)] : List (Nat × Str)).map (fun p => PyData.tuple [.int (p.1 : Nat), .str p.2])).map .d from rfl]
    rw [comp_map (f := fun p : Nat × Str => PyData.tuple [.str (ts.getD p.1 ""), .str p.2]) (fun p hp => ⟨_, rfl, sat_eq (by
      have p3 : p.1 < 3 := by
        simp only [List.mem_cons, List.not_mem_nil, or_false] at hp
        rcases hp with rfl | rfl | rfl <;> simp
      simp only [wipeF]
      walk_at "g0"
      rw [ix_getL (by omega) (by rw [List.length_map]; omega)]
      simp only [List.getElem_map, Int.toNat_natCast]
      walk_at "g0"
      rw [List.getD_eq_getElem?_getD, List.getElem?_eq_getElem (by omega)]
      exact ⟨by rw [sz]; decide, rfl⟩)⟩) (by rw [sz]; simp)]
    walk_at "gq"
    have ed : dictLV [.d (.list [PyData.tuple [.str (ts.getD 0 (Str.ofString "")), .str u2], .tuple [.str (ts.getD 1 (Str.ofString "")), .str u1], .tuple [.str (ts.getD 2 (Str.ofString "")), .str u0]])] S = .ok (.d (.dict [(.str s0, .str u2), (.str s1, .str u1), (.str s2, .str u0)])) S := by
      rw [ets]
      simp [dictLV, pairsK, pairK, putsK, dputK, dgetK, keyK, n01, n02, n12]
    rw [ed]
    walk_at "gq"
    obtain ⟨f, ef⟩ : ∃ f : Str → Str, f = fun s => if s = s0 then u2 else if s = s1 then u1 else u0 := ⟨_, rfl⟩
    have f0 : f s0 = u2 := by rw [ef]; simp
    have f1 : f s1 = u1 := by rw [ef]; simp [n01.symm]
    have f2 : f s2 = u0 := by rw [ef]; simp [n02.symm, n12.symm]
    obtain ⟨nd, en⟩ : ∃ nd, nd = [((.str s0 : PyData), (.str u2 : PyData)), (.str s1, .str u1), (.str s2, .str u0)] := ⟨_, rfl⟩
    rw [← en]
    have n1 : allK nd = true := by rw [en]; rfl
    have n2 : ∀ s ∈ ts, dgetK nd (.str s) = some (.str (f s)) := fun s hs => by
      rw [ets] at hs
      simp only [List.mem_cons, List.not_mem_nil, or_false] at hs
      rcases hs with rfl | rfl | rfl
      · rw [f0, en]; simp [dgetK, keyK]
      · rw [f1, en]; simp [dgetK, keyK, n01]
      · rw [f2, en]; simp [dgetK, keyK, n02, n12]
    have fsn : ∀ s ∈ ts, Sn (f s) := fun s hs => by
      rw [ets] at hs
      simp only [List.mem_cons, List.not_mem_nil, or_false] at hs
      rcases hs with rfl | rfl | rfl
      · rw [f0]; exact w2
      · rw [f1]; exact w1
      · rw [f2]; exact w0
    have finj : ∀ s ∈ ts, ∀ t ∈ ts, f s = f t → s = t := fun s hs t ht' => by
      rw [ets] at hs ht'
      simp only [List.mem_cons, List.not_mem_nil, or_false] at hs ht'
      rcases hs with rfl | rfl | rfl <;> rcases ht' with rfl | rfl | rfl <;> simp [f0, f1, f2, v01, v02, v12, v01.symm, v02.symm, v12.symm]
    simp only [m_law_6]
    walk_at "g0"
    refine ⟨by rw [sz]; decide, by rw [sz]; decide, by rw [sz]; decide, by rw [sz]; decide, ?_⟩
    refine (one_list D (by omega) (by simp) (by simp)).on fun v S ⟨x, hx, e, D⟩ => ?_
    subst e
    obtain ⟨a, b, ex, ta, tb⟩ : ∃ a b : Str, x = .list [.str a, .str b] ∧ Tx 20 a ∧ Tx 20 b := by
      simp only [List.mem_cons, List.not_mem_nil, or_false] at hx
      rcases hx with rfl | rfl | rfl
      · exact ⟨_, _, rfl, Tx.lit, Tx.lit⟩
      · exact ⟨_, _, rfl, Tx.lit, Tx.lit⟩
      · exact ⟨_, _, rfl, Tx.lit, Tx.lit⟩
    subst ex
    simp only [m_law_7]
    walk_at "g0"
    simp only [eDict2]
    walk_at "g0"
    simp only [dict2V]
    rw [if_neg (by decide +kernel)]
    walk_at "g0"
    obtain ⟨g, eg⟩ : ∃ g : Str → Str, g = fun w : Str => if w = ("aha" : Str) then a else if w = ("far" : Str) then b else w := ⟨_, rfl⟩
    have naf : ¬ ((Str.ofString "far") = Str.ofString "aha") := by decide +kernel
    have ga : g "aha" = a := by rw [eg]; simp
    have gf : g "far" = b := by rw [eg]; simp only [naf, if_false, if_true]
    obtain ⟨wd, ew⟩ : ∃ wd, wd = [((.str "aha" : PyData), (.str a : PyData)), (.str "far", .str b)] := ⟨_, rfl⟩
    rw [← ew]
    have wd1 : allK wd = true := by rw [ew]; rfl
    have wget : ∀ v : Str, (dgetK wd (.str v)).getD (.str v) = .str (g v) := fun v => by
      rw [ew, eg]
      simp only [dgetK, keyK, List.find?_cons, List.find?_nil]
      by_cases z1 : v = "aha"
      · rw [z1]; simp
      · rw [if_neg z1]
        have : ¬ ((Str.ofString "aha") = v) := fun z => z1 z.symm
        by_cases z2 : v = "far"
        · rw [z2] at this ⊢; rw [if_pos rfl]; simp [this]
        · have h2 : ¬ ((Str.ofString "far") = v) := fun z => z2 z.symm
          rw [if_neg z2]; simp [this, h2]
    have wd2 : ∀ w : Str, w = "aha" ∨ w = "far" → dgetK wd (.str w) = some (.str (g w)) ∧ Tx 20 (g w) := fun w hw => by
      rcases hw with rfl | rfl
      · rw [ga, ew]; exact ⟨by simp [dgetK, keyK], ta⟩
      · have naf2 : ¬ ((Str.ofString "aha") = Str.ofString "far") := fun z => naf z.symm
        rw [gf, ew]; exact ⟨by simp [dgetK, keyK, naf2], tb⟩
    simp only [m_law_8]
    walk_at "g0"
    rw [show robD R = .tuple (R.map stD) from rfl]
    walk_at "g0"
    have r1 := wf.one
    have r4 : R.length ≤ 4 := by omega
    refine (places_ok D (by omega) (by rw [List.length_map]; omega) (by rw [List.length_map]; omega)).on fun v S ⟨ps, e, p1, p2, p3, p4, D⟩ => ?_
    subst e
    rw [List.length_map] at p1 p3 D
    rw [show (PyData.tuple (R.map stD)) = robD R from rfl]
    simp only [m_law_9]
    walk_at "g0"
    rw [walk_eq wf mw (by omega)]
    walk_at "g0"
    simp only [m_law_10]
    walk_at "g0"
    obtain ⟨v, ev⟩ : ∃ v : Str, vdD (goOf m R 0).1 = .str v := by cases (goOf m R 0).1 <;> exact ⟨_, rfl⟩
    have ewd : allK wd && !wd.isEmpty = true := by rw [wd1, ew]; rfl
    rw [ev]
    simp only [eGetK]
    walk_at "g0"
    refine ⟨⟨wd1, by rw [ew]; rfl⟩, rfl, ?_⟩
    obtain ⟨gin, gnd, _⟩ := goOf_list (m := m) (st := 0) wf (Int.le_refl 0) (by omega)
    have gfew := std_few mw gnd gin
    have g720 : (goOf m R 0).2.length ≤ 720 := by
      have : 3 * m.size * R.length ≤ 3 * 60 * 4 := Nat.mul_le_mul (Nat.mul_le_mul (Nat.le_refl 3) (by omega)) r4
      omega
    have pget : ∀ q : Int, 0 ≤ q → q < R.length → ∃ hq : q.toNat < ps.length, ps[q.toNat] = plOf ps q := fun q h0 h1 => by
      have hq : q.toNat < ps.length := by omega
      refine ⟨hq, ?_⟩
      unfold plOf
      rw [List.getD_eq_getElem?_getD, List.getElem?_eq_getElem hq]
      rfl
    simp only [eLc]
    walk_at "g0"
    rw [comp_map (enc := Std.d) (ys := (goOf m R 0).2) (f := fun x => (renStd (plOf ps) x).d) (fun x hx => ⟨_, rfl, sat_eq (by
      have xi := gin x hx
      obtain ⟨hq, eq⟩ := pget x.st xi.s0 xi.s1
      simp only [wipeF, Std.d]
      walk_at "g0"
      rw [ix_getL xi.s0 (by rw [List.length_map]; omega)]
      simp only [List.getElem_map, eq]
      walk_at "g0"
      exact ⟨by rw [sz]; decide, rfl⟩)⟩) (by rw [sz, List.length_nil]; omega)]
    walk_at "g0"
    refine ⟨by rw [sz]; decide, ?_⟩
    rw [wget]
    simp only [m_law_11]
    walk_at "g0"
    rw [renamed_eq n1 n2 100 m _ (by omega) mw ms]
    walk_at "g0"
    have hp1 : ∀ rs ∈ R, ∀ r ∈ rs, ∀ t, r.sg = some t → t ∈ ts := fun rs hrs r hr => (hp rs hrs r hr).1
    have hp2 : ∀ rs ∈ R, ∀ r ∈ rs, ∀ w, r.dd = .stop w → w = "aha" ∨ w = "far" := fun rs hrs r hr w hw => by
      have := (hp rs hrs r hr).2 w hw
      simpa using this
    refine (turned_ok (ss := ts) (f := f) (g := g) D (by omega) wf n1 n2 wd1 wd2 hp1 hp2 (fun s hs => (fsn s hs).tx.mono (by decide)) (by omega) p2 p3).on fun v' S ⟨R', e, lR', wR', tR', D⟩ => ?_
    subst e
    have wf' : RobWf R' := ⟨by omega, by omega, fun rs hrs => by rw [lR']; exact wR' rs hrs⟩
    have mw' : (Maze.ren f m).Wf := Maze.ren_wf fsn _ m (Nat.le_refl _) mw ms
    have glost : g "lost" = "lost" := by
      have h1 : ¬ ((Str.ofString "lost") = Str.ofString "aha") := by decide +kernel
      have h2 : ¬ ((Str.ofString "lost") = Str.ofString "far") := by decide +kernel
      rw [eg]; simp only [h1, h2, if_false]
    have RR : RenR f g (plOf ps) ts R R' := by
      refine ⟨lR', fun q q' a b c d e => ?_, ?_, fun q h0 h1 s hs d => ?_⟩
      · obtain ⟨i1, e1⟩ := pget q a b
        obtain ⟨i2, e2⟩ := pget q' c d
        have : q.toNat = q'.toNat := by
          have h1 : ps[q.toNat]? = ps[q'.toNat]? := by rw [List.getElem?_eq_getElem i1, List.getElem?_eq_getElem i2, e1, e2, e]
          exact (List.getElem?_inj i1 p2).mp h1
        omega
      · unfold plOf
        rw [List.getD_eq_getElem?_getD, show (0 : Int).toNat = 0 from rfl, p4]
        rfl
      · have tu := tR' q.toNat (by omega)
        rw [show ((q.toNat : Nat) : Int) = q by omega] at tu
        refine turn_deed finj glost tu (fun r hr => hp1 _ (getD_mem (by omega)) r hr) hs
    rw [walk_eq wf' mw' (by rw [Maze.ren_size]; omega), ren_go RR wf ms]
    walk_at "g0"
    have gout : g "out" = "out" := by
      have h1 : ¬ ((Str.ofString "out") = Str.ofString "aha") := by decide +kernel
      have h2 : ¬ ((Str.ofString "out") = Str.ofString "far") := by decide +kernel
      rw [eg]; simp only [h1, h2, if_false]
    have gever : g "ever" = "ever" := by
      have h1 : ¬ ((Str.ofString "ever") = Str.ofString "aha") := by decide +kernel
      have h2 : ¬ ((Str.ofString "ever") = Str.ofString "far") := by decide +kernel
      rw [eg]; simp only [h1, h2, if_false]
    have evd : vdD (renRes g (plOf ps) (goOf m R 0).1) = .str (g v) := by
      cases hr0 : (goOf m R 0).1 with
      | out k =>
        rw [hr0] at ev
        simp only [vdD, PyData.str.injEq] at ev
        simp only [renRes, vdD]
        rw [← ev, gout]
      | ever =>
        rw [hr0] at ev
        simp only [vdD, PyData.str.injEq] at ev
        simp only [renRes, vdD]
        rw [← ev, gever]
      | stop w =>
        rw [hr0] at ev
        simp only [vdD, PyData.str.injEq] at ev
        simp only [renRes, vdD]
        rw [ev]
    have go2 := ren_go RR wf ms
    obtain ⟨_, _, rw2⟩ := goOf_list (m := Maze.ren f m) (st := 0) wf' (Int.le_refl 0) (by omega)
    have wst := walk_wd (st := 0) mw' wf' (Int.le_refl 0) (by omega) (by rw [Maze.ren_size]; omega) (by omega)
    rw [go2] at wst
    rw [evd, List.map_map, show (Std.d ∘ renStd (plOf ps)) = fun x => (renStd (plOf ps) x).d from rfl]
    simp only at wst
    rw [List.map_map, show (Std.d ∘ renStd (plOf ps)) = fun x => (renStd (plOf ps) x).d from rfl] at wst
    have wg : Wd 3 300 (.str (g v)) := by
      rw [go2] at rw2
      simp only at rw2
      rw [← evd]
      generalize renRes g (plOf ps) (goOf m R 0).1 = rr at rw2
      cases rr with
      | out k => exact Wd.lit (s := "out") (n := 300) (by decide)
      | ever => exact Wd.lit (s := "ever") (n := 300) (by decide)
      | stop w => exact Wd.str (m := 20) rw2
    have wall : Wd 4 1200000 (.tuple [.str (g v), .tuple ((goOf m R 0).2.map fun x => (renStd (plOf ps) x).d)]) := Wd.t2 (a := 300) (b := 1100000) wg wst
    simp only [m_law_12]
    walk_at "g0"
    rw [wall.repr]
    walk_at "g0"
    rw [wall.repr]
    walk_at "g0"
    exact ⟨_, _, _, _, _, _, _, _, _, _, _, _, _, _, _, _, rfl, D.mono (by omega)⟩
  · subst e
    simp only [m_law_14]
    walk_at "g0"
end Wk
open PySem PySem.W PyProof.Rows
set_option maxRecDepth 100000 in
set_option maxHeartbeats 0 in
theorem PySem.Challenge.cw_anymaze_k40_whole_walks_renamed_holds : PySem.Challenge.rw_anymaze_k40_whole_walks_renamed.Holds := by
  w_on; o_law; k_head; (case hw => w_witness2)
  k_fill
  refine Wk.walk Wk.law_true rfl (by decide +kernel) (fun w h Y => PySem.W.kIn_of Y) ?F
  case F =>
    intro w mg fa h KX G hmg
    refine' Wk.at_mk KX G hmg ?a1 ?l1 ?c1 ?k1 ?a2 ?l2 ?c2 ?k2 ?a3 ?l3 ?c3 ?k3 ?a4 ?l4 ?c4 ?k4 ?a5 ?l5 ?c5 ?k5 ?a6 ?l6 ?c6 ?k6 ?a7 ?l7 ?c7 ?k7 ?a8 ?l8 ?c8 ?k8 ?a9 ?l9 ?c9 ?k9 ?a10 ?l10 ?c10 ?k10 ?a11 ?l11 ?c11 ?k11 ?a12 ?l12 ?c12 ?k12 ?a13 ?l13 ?c13 ?k13 ?a14 ?l14 ?c14 ?k14 ?a15 ?l15 ?c15 ?k15 ?a16 ?l16 ?c16 ?k16 ?a17 ?l17 ?c17 ?k17 ?z_abs ?z_dict ?z_enumerate ?z_int ?z_len ?z_list ?z_range ?z_repr ?z_reversed ?z_sum ?z_tuple ?v_EVER ?v_LOST ?v_OUT
    (case a1 => k_is)
    (case l1 => k_is)
    (case c1 => k_is)
    (case k1 => k_is)
    (case a2 => k_is)
    (case l2 => k_is)
    (case c2 => k_is)
    (case k2 => k_is)
    (case a3 => k_is)
    (case l3 => k_is)
    (case c3 => k_is)
    (case k3 => k_is)
    (case a4 => k_is)
    (case l4 => k_is)
    (case c4 => k_is)
    (case k4 => k_is)
    (case a5 => k_is)
    (case l5 => k_is)
    (case c5 => k_is)
    (case k5 => k_is)
    (case a6 => k_is)
    (case l6 => k_is)
    (case c6 => k_is)
    (case k6 => k_is)
    (case a7 => k_is)
    (case l7 => k_is)
    (case c7 => k_is)
    (case k7 => k_is)
    (case a8 => k_is)
    (case l8 => k_is)
    (case c8 => k_is)
    (case k8 => k_is)
    (case a9 => k_is)
    (case l9 => k_is)
    (case c9 => k_is)
    (case k9 => k_is)
    (case a10 => k_is)
    (case l10 => k_is)
    (case c10 => k_is)
    (case k10 => k_is)
    (case a11 => k_is)
    (case l11 => k_is)
    (case c11 => k_is)
    (case k11 => k_is)
    (case a12 => k_is)
    (case l12 => k_is)
    (case c12 => k_is)
    (case k12 => k_is)
    (case a13 => k_is)
    (case l13 => k_is)
    (case c13 => k_is)
    (case k13 => k_is)
    (case a14 => k_is)
    (case l14 => k_is)
    (case c14 => k_is)
    (case k14 => k_is)
    (case a15 => k_is)
    (case l15 => k_is)
    (case c15 => k_is)
    (case k15 => k_is)
    (case a16 => k_is)
    (case l16 => k_is)
    (case c16 => k_is)
    (case k16 => k_is)
    (case a17 => k_is)
    (case l17 => k_is)
    (case c17 => k_is)
    (case k17 => k_is)
    (case z_abs => k_is)
    (case z_dict => k_is)
    (case z_enumerate => k_is)
    (case z_int => k_is)
    (case z_len => k_is)
    (case z_list => k_is)
    (case z_range => k_is)
    (case z_repr => k_is)
    (case z_reversed => k_is)
    (case z_sum => k_is)
    (case z_tuple => k_is)
    (case v_EVER => k_is)
    (case v_LOST => k_is)
    (case v_OUT => k_is)
