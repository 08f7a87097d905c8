import PyProof.Rows.All
import Wide.All
import OpenK.AllK
import Wide.FinOn
import HandS.ForMost
import HandS.Exc
import HandS.Walk
import HandS.TupAny
import HandS.Wide
import HandS.Defaults
import HandS.Deep
import HandS.TupMul
import HandS.TupLe
import HandS.IsInst
import HandS.Style
import HandS.Flow
import HandS.WordsDict
import PyProof.ReprRoads
import HandS.More
import KE.GoesEnum
import HandS.Ends
import HandS.Words
import PyProof.ReprLen
import HandS.Text
import HandS.Dict
import HandS.TryOnly
import KE.KUnpackStar
import HandS.RaiseMore
import HandS.Replace
import HandS.TryMany
import HandS.ExcValue
import KE.KTryMore
import HandS.ExcBuiltin
import HandS.NamedTupGet
import KE.KExcIs
import HandS.StrMore
import PyProof.WalkInts
import PyProof.StrCalls
import KE.IntTextLaws
import KE.IntTextText
import KE.KIntText
import KE.KStrBytes
import KE.KxText
import PyProof.Rows.StrItems
import PySem.Challenge.RW_treemerge_k04_places_between_places
set_option Elab.async false
set_option linter.all false
set_option maxRecDepth 100000
set_option maxHeartbeats 4000000
namespace TM
open PySem PySem.Spec L2
open PyProof.Rows hiding St

/-! data, as trees -/
inductive D where
  | non | bl (b : Bool) | int (i : Int) | str (s : Str)
  | tup (ds : List D) | lst (ds : List D)
  | dct (ks : List Key) (vs : List D) | dctt (ks : List (List Key)) (vs : List D)
  | ref (n : Nat) | fn (x : Str) | cls (x : Str) | ty (n : String)
  | exn (c : Str) (ns : List Str) (vs : List D)
  deriving Inhabited

/-- a slot's content: frozen data, an owned list, an owned dict -/
inductive Slot where
  | val (d : D) | own (ds : List D) | ownd (kvs : List (Key × D)) | ownt (kvs : List (List Key × D))
abbrev Env := List (Option Slot)
inductive Ob where
  | dict (kvs : List (Key × D)) | inst (c : Str) (fs : List (Str × D)) | lst (ds : List D)
abbrev Sto := List Ob

def D.isInt : D → Bool
  | .int _ => true
  | _ => false
def D.isStr : D → Bool
  | .str _ => true
  | _ => false
/-- what may be a key: an int is in it, and a text -/
def keyish (ds : List D) : Bool := ds.any D.isInt && ds.any D.isStr

structure Gb where
  K : PySem.W.Frag
  mg : Str → Option Value

/-- an exception object that rests: its class, its own dict -/
def ExAt (cls : Value) (d : Option Addr) (a : Addr) : HO := .ext fun h => ∃ (oe : Obj) (vs : Array Value), h.get? a = some oe ∧ Zc cls d oe ∧ oe.data = .fields vs

mutual
inductive Rep (G : Gb) (rho : List Addr) (F : Hp) : V → D → Prop
  | non : Rep G rho F .non .non
  | bl (b : Bool) : Rep G rho F (.bl b) (.bl b)
  | int (i : Int) : Rep G rho F (.int i) (.int i)
  | str (x : Str) : Rep G rho F (.str x) (.str x)
  | tup {a : Addr} {xs : List V} {ds : List D} : SqT G.K F a xs → (keyish ds = true → F a = some (.tup xs)) → xs.length ≤ sizeLine → RepL G rho F xs ds → Rep G rho F (.ref a) (.tup ds)
  | lst {a : Addr} {xs : List V} {ds : List D} : SqL G.K F a xs → xs.length ≤ sizeLine → RepL G rho F xs ds → Rep G rho F (.ref a) (.lst ds)
  | dct {a : Addr} {kvs : List (Key × V)} {ks : List Key} {ds : List D} : F a = some (.dK kvs) → kvs.map (·.1) = ks → RepL G rho F (kvs.map (·.2)) ds → Rep G rho F (.ref a) (.dct ks ds)
  | dctt {a : Addr} {kvs : List (List Key × V)} {ks : List (List Key)} {ds : List D} : F a = some (.dT kvs) → kvs.map (·.1) = ks → RepL G rho F (kvs.map (·.2)) ds → Rep G rho F (.ref a) (.dctt ks ds)
  | ref {n : Nat} {a : Addr} : rho[n]? = some a → Rep G rho F (.ref a) (.ref n)
  | fn {x : Str} {a : Addr} : G.mg x = some (.ref a) → Rep G rho F (.ref a) (.fn x)
  | cls {x : Str} {a : Addr} : G.mg x = some (.ref a) → Rep G rho F (.ref a) (.cls x)
  | ty (n : String) : Rep G rho F (.ty n) (.ty n)
  | exn {c : Str} {C a da : Addr} {fs : List (Str × V)} {ns : List Str} {ds : List D} : G.mg c = some (.ref C) → F a = some (ExAt (.ref C) (some da) a) → F da = some (.xd fs) → fs.map (·.1) = ns → RepL G rho F (fs.map (·.2)) ds → Rep G rho F (.ref a) (.exn c ns ds)
  | exn0 {c : Str} {C a : Addr} : G.mg c = some (.ref C) → F a = some (ExAt (.ref C) none a) → Rep G rho F (.ref a) (.exn c [] [])
inductive RepL (G : Gb) (rho : List Addr) (F : Hp) : List V → List D → Prop
  | nil : RepL G rho F [] []
  | cons {v : V} {vs : List V} {d : D} {ds : List D} : Rep G rho F v d → RepL G rho F vs ds → RepL G rho F (v :: vs) (d :: ds)
end

/-- F is within F' -/
def Sub (F F' : Hp) : Prop := ∀ a o, F a = some o → F' a = some o
theorem Sub.refl (F : Hp) : Sub F F := fun _ _ h => h
theorem Sub.trans {F F1 F2 : Hp} (a : Sub F F1) (b : Sub F1 F2) : Sub F F2 := fun x o h => b x o (a x o h)
/-- rho is the beginning of rho' -/
def Pre (r r' : List Addr) : Prop := ∀ (n : Nat) (a : Addr), r[n]? = some a → r'[n]? = some a
theorem Pre.refl (r : List Addr) : Pre r r := fun _ _ h => h
theorem Pre.trans {r r1 r2 : List Addr} (a : Pre r r1) (b : Pre r1 r2) : Pre r r2 := fun n x h => b n x (a n x h)
theorem Pre.snoc (r : List Addr) (x : Addr) : Pre r (r ++ [x]) := fun n a h => by
  have := (List.getElem?_eq_some_iff.mp h).1
  rw [List.getElem?_append_left this]; exact h

section
variable {G : Gb} {rho rho' : List Addr} {F F' : Hp}
theorem sqT_mono {K : PySem.W.Frag} {a : Addr} {xs : List V} (s : Sub F F') (h : SqT K F a xs) : SqT K F' a xs := by
  rcases h with (h | ⟨o, h⟩) | h
  · exact .inl (.inl (s _ _ h))
  · exact .inl (.inr ⟨o, s _ _ h⟩)
  · exact .inr h
theorem sqL_mono {K : PySem.W.Frag} {a : Addr} {xs : List V} (s : Sub F F') (h : SqL K F a xs) : SqL K F' a xs := by
  rcases h with (h | ⟨o, h⟩) | h
  · exact .inl (.inl (s _ _ h))
  · exact .inl (.inr ⟨o, s _ _ h⟩)
  · exact .inr h
mutual
theorem Rep.mono (s : Sub F F') (p : Pre rho rho') : ∀ {v : V} {d : D}, Rep G rho F v d → Rep G rho' F' v d
  | _, _, .non => .non
  | _, _, .bl b => .bl b
  | _, _, .int i => .int i
  | _, _, .str x => .str x
  | _, _, .tup h k z l => .tup (sqT_mono s h) (fun q => s _ _ (k q)) z (RepL.mono s p l)
  | _, _, .lst h z l => .lst (sqL_mono s h) z (RepL.mono s p l)
  | _, _, .dct h e l => .dct (s _ _ h) e (RepL.mono s p l)
  | _, _, .dctt h e l => .dctt (s _ _ h) e (RepL.mono s p l)
  | _, _, .ref h => .ref (p _ _ h)
  | _, _, .fn h => .fn h
  | _, _, .cls h => .cls h
  | _, _, .ty n => .ty n
  | _, _, .exn h1 h2 h3 h4 l => .exn h1 (s _ _ h2) (s _ _ h3) h4 (RepL.mono s p l)
  | _, _, .exn0 h1 h2 => .exn0 h1 (s _ _ h2)
theorem RepL.mono (s : Sub F F') (p : Pre rho rho') : ∀ {vs : List V} {ds : List D}, RepL G rho F vs ds → RepL G rho' F' vs ds
  | _, _, .nil => .nil
  | _, _, .cons r l => .cons (Rep.mono s p r) (RepL.mono s p l)
end
theorem RepL.length : ∀ {vs : List V} {ds : List D}, RepL G rho F vs ds → vs.length = ds.length
  | _, _, .nil => rfl
  | _, _, .cons _ l => congrArg (· + 1) (RepL.length l)
theorem RepL.get : ∀ {vs : List V} {ds : List D} {i : Nat} {d : D}, RepL G rho F vs ds → ds[i]? = some d → ∃ v, vs[i]? = some v ∧ Rep G rho F v d
  | _, _, _, _, .nil, e => by simp at e
  | _, _, 0, _, .cons r _, e => by simp at e; subst e; exact ⟨_, rfl, r⟩
  | _, _, i + 1, d, .cons _ l, e => by
    obtain ⟨v, h1, h2⟩ := RepL.get (i := i) (d := d) l (by simpa using e)
    exact ⟨v, by simpa using h1, h2⟩
theorem RepL.getV : ∀ {vs : List V} {ds : List D} {i : Nat} {v : V}, RepL G rho F vs ds → vs[i]? = some v → ∃ d, ds[i]? = some d ∧ Rep G rho F v d
  | _, _, _, _, .nil, e => by simp at e
  | _, _, 0, _, .cons r _, e => by simp at e; subst e; exact ⟨_, rfl, r⟩
  | _, _, i + 1, v, .cons _ l, e => by
    obtain ⟨d, h1, h2⟩ := RepL.getV (i := i) (v := v) l (by simpa using e)
    exact ⟨d, by simpa using h1, h2⟩
theorem RepL.append : ∀ {vs ws : List V} {ds es : List D}, RepL G rho F vs ds → RepL G rho F ws es → RepL G rho F (vs ++ ws) (ds ++ es)
  | _, _, _, _, .nil, s => s
  | _, _, _, _, .cons r l, s => .cons r (RepL.append l s)
theorem RepL.take : ∀ {vs : List V} {ds : List D} (n : Nat), RepL G rho F vs ds → RepL G rho F (vs.take n) (ds.take n)
  | _, _, 0, _ => .nil
  | _, _, _ + 1, .nil => .nil
  | _, _, n + 1, .cons r l => .cons r (RepL.take n l)
theorem RepL.drop : ∀ {vs : List V} {ds : List D} (n : Nat), RepL G rho F vs ds → RepL G rho F (vs.drop n) (ds.drop n)
  | _, _, 0, r => r
  | _, _, _ + 1, .nil => .nil
  | _, _, n + 1, .cons _ l => RepL.drop n l
theorem RepL.set {v : V} {d : D} (r : Rep G rho F v d) : ∀ {vs : List V} {ds : List D} (i : Nat), RepL G rho F vs ds → RepL G rho F (vs.set i v) (ds.set i d)
  | _, _, _, .nil => .nil
  | _, _, 0, .cons _ l => .cons r l
  | _, _, i + 1, .cons q l => .cons q (RepL.set r i l)
theorem RepL.eraseIdx : ∀ {vs : List V} {ds : List D} (i : Nat), RepL G rho F vs ds → RepL G rho F (vs.eraseIdx i) (ds.eraseIdx i)
  | _, _, _, .nil => .nil
  | _, _, 0, .cons _ l => l
  | _, _, i + 1, .cons q l => .cons q (RepL.eraseIdx i l)
theorem RepL.reverse : ∀ {vs : List V} {ds : List D}, RepL G rho F vs ds → RepL G rho F vs.reverse ds.reverse
  | _, _, .nil => .nil
  | _, _, .cons r l => by
    rw [List.reverse_cons, List.reverse_cons]
    exact (RepL.reverse l).append (.cons r .nil)
theorem RepL.of_map {α : Type} (f : α → V) (g : α → D) (h : ∀ a, Rep G rho F (f a) (g a)) : ∀ l : List α, RepL G rho F (l.map f) (l.map g)
  | [] => .nil
  | a :: l => .cons (h a) (RepL.of_map f g h l)
end
end TM
namespace TM
open PySem PySem.Spec L2
open PyProof.Rows hiding St

/-- what is to stand: objects that no one may touch; what is frozen at first, the tracked objects' places -/
structure Ent where
  Pr : Addr → HO → Prop
  F : Hp
  rho : List Addr

def ObRep (G : Gb) (rho : List Addr) (F H : Hp) (a : Addr) : Ob → Prop
  | .dict kvs => ∃ vs : List (Key × V), H a = some (.dK vs) ∧ vs.map (·.1) = kvs.map (·.1) ∧ RepL G rho F (vs.map (·.2)) (kvs.map (·.2))
  | .inst c fs => ∃ (C dx : Addr) (vs : List (Str × V)), H a = some (.ins C dx vs) ∧ G.mg c = some (.ref C) ∧ vs.map (·.1) = fs.map (·.1) ∧ RepL G rho F (vs.map (·.2)) (fs.map (·.2))
  | .lst ds => ∃ xs, H a = some (.lst xs) ∧ xs.length ≤ sizeLine ∧ RepL G rho F xs ds

def Slot.isVal : Slot → Bool
  | .val _ => true
  | _ => false
def Slot.frz : Slot → D
  | .val d => d
  | .own ds => .lst ds
  | .ownd kvs => .dct (kvs.map (·.1)) (kvs.map (·.2))
  | .ownt kvs => .dctt (kvs.map (·.1)) (kvs.map (·.2))

/-- the object of an owned slot stands at a -/
def OwnAt (G : Gb) (rho : List Addr) (F H : Hp) (a : Addr) : Slot → Prop
  | .val _ => False
  | .own ds => ∃ xs, H a = some (.lst xs) ∧ xs.length ≤ sizeLine ∧ RepL G rho F xs ds
  | .ownd kvs => ∃ vs : List (Key × V), H a = some (.dK vs) ∧ vs.map (·.1) = kvs.map (·.1) ∧ RepL G rho F (vs.map (·.2)) (kvs.map (·.2))
  | .ownt kvs => ∃ vs : List (List Key × V), H a = some (.dT vs) ∧ vs.map (·.1) = kvs.map (·.1) ∧ RepL G rho F (vs.map (·.2)) (kvs.map (·.2))

structure R (G : Gb) (ent : Ent) (e : Env) (S : Sto) (σ : St) (H F : Hp) (rho : List Addr) : Prop where
  len : e.length = σ.length
  sub : Sub F H
  val : ∀ (i : Nat) (d : D), e[i]? = some (some (.val d)) → ∃ v, σ[i]? = some (some v) ∧ Rep G rho F v d
  own : ∀ (i : Nat) (s : Slot), e[i]? = some (some s) → s.isVal = false → ∃ a, σ[i]? = some (some (.ref a)) ∧ OwnAt G rho F H a s ∧ F a = none ∧ (∀ o, ¬ ent.Pr a o) ∧ a ∉ rho
  sep : ∀ (i j : Nat) (s t : Slot) (a : Addr), e[i]? = some (some s) → s.isVal = false → e[j]? = some (some t) → t.isVal = false → σ[i]? = some (some (.ref a)) → σ[j]? = some (some (.ref a)) → i = j
  slen : S.length = rho.length
  sto : ∀ (n : Nat) (o : Ob) (a : Addr), S[n]? = some o → rho[n]? = some a → ObRep G rho F H a o ∧ F a = none
  nod : rho.Nodup
  keep : ∀ a o, ent.Pr a o → H a = some o ∧ F a = none ∧ a ∉ rho
  sub0 : Sub ent.F F
  pre0 : Pre ent.rho rho

/-- only new objects, all of them frozen -/
structure Grow (H F H' F' : Hp) : Prop where
  old : ∀ a, H a ≠ none → H' a = H a ∧ F' a = F a
  new : ∀ a, H a = none → F' a = H' a
theorem Grow.refl {H F : Hp} (s : Sub F H) : Grow H F H F := ⟨fun _ _ => ⟨rfl, rfl⟩, fun a h => by
  cases e : F a with
  | none => exact h.symm
  | some o => rw [s a o e] at h; cases h⟩
theorem Grow.trans {H F H1 F1 H2 F2 : Hp} (a : Grow H F H1 F1) (b : Grow H1 F1 H2 F2) : Grow H F H2 F2 := by
  refine ⟨fun x h => ?_, fun x h => ?_⟩
  · have h1 : H1 x ≠ none := by rw [(a.old x h).1]; exact h
    exact ⟨(b.old x h1).1.trans (a.old x h).1, (b.old x h1).2.trans (a.old x h).2⟩
  · by_cases h1 : H1 x = none
    · exact b.new x h1
    · rw [(b.old x h1).1, (b.old x h1).2]; exact a.new x h
theorem Grow.alloc {H F : Hp} {p : Addr} {o : HO} (s : Sub F H) (h : H p = none) : Grow H F (upd H p o) (upd F p o) := by
  refine ⟨fun a ha => ?_, fun a ha => ?_⟩
  · have : a ≠ p := fun e => ha (e ▸ h)
    exact ⟨upd_ne this, upd_ne this⟩
  · by_cases e : a = p
    · subst e; rw [upd_same, upd_same]
    · rw [upd_ne e, upd_ne e, ha]
      cases q : F a with
      | none => rfl
      | some x => rw [s a x q] at ha; cases ha
theorem Grow.sub {H F H' F' : Hp} (g : Grow H F H' F') (s : Sub F H) : Sub F F' := fun a o h => by
  rw [(g.old a (by rw [s a o h]; simp)).2]; exact h
theorem Grow.subH {H F H' F' : Hp} (g : Grow H F H' F') : Sub H H' := fun a o h => by
  rw [(g.old a (by rw [h]; simp)).1]; exact h
theorem Grow.ok {H F H' F' : Hp} (g : Grow H F H' F') (s : Sub F H) : Sub F' H' := fun a o h => by
  by_cases e : H a = none
  · rw [← g.new a e]; exact h
  · have := g.old a e
    rw [this.2] at h; rw [this.1]; exact s a o h

section
variable {G : Gb} {ent : Ent} {e : Env} {S : Sto} {σ : St} {H F H' F' : Hp} {rho rho' : List Addr}
theorem ObRep.mono {a : Addr} (s : Sub F F') (p : Pre rho rho') (h : H' a = H a) : ∀ {o : Ob}, ObRep G rho F H a o → ObRep G rho' F' H' a o
  | .dict _, ⟨vs, h1, h2, h3⟩ => ⟨vs, h.trans h1, h2, h3.mono s p⟩
  | .inst _ _, ⟨C, dx, vs, h1, h2, h3, h4⟩ => ⟨C, dx, vs, h.trans h1, h2, h3, h4.mono s p⟩
  | .lst _, ⟨xs, h1, z, h2⟩ => ⟨xs, h.trans h1, z, h2.mono s p⟩
theorem OwnAt.mono {a : Addr} (s : Sub F F') (p : Pre rho rho') (h : H' a = H a) : ∀ {o : Slot}, OwnAt G rho F H a o → OwnAt G rho' F' H' a o
  | .val _, h => h
  | .own _, ⟨xs, h1, z, h2⟩ => ⟨xs, h.trans h1, z, h2.mono s p⟩
  | .ownd _, ⟨xs, h1, z, h2⟩ => ⟨xs, h.trans h1, z, h2.mono s p⟩
  | .ownt _, ⟨xs, h1, z, h2⟩ => ⟨xs, h.trans h1, z, h2.mono s p⟩
theorem OwnAt.isob {a : Addr} : ∀ {o : Slot}, OwnAt G rho F H a o → H a ≠ none
  | .val _, h => h.elim
  | .own _, ⟨xs, h1, _⟩ => by rw [h1]; simp
  | .ownd _, ⟨xs, h1, _⟩ => by rw [h1]; simp
  | .ownt _, ⟨xs, h1, _⟩ => by rw [h1]; simp
theorem ObRep.isob {a : Addr} : ∀ {o : Ob}, ObRep G rho F H a o → H a ≠ none
  | .dict _, ⟨xs, h1, _⟩ => by rw [h1]; simp
  | .inst _ _, ⟨_, _, _, h1, _⟩ => by rw [h1]; simp
  | .lst _, ⟨_, h1, _⟩ => by rw [h1]; simp
theorem R.rhoSome (r : R G ent e S σ H F rho) {a : Addr} (h : a ∈ rho) : H a ≠ none ∧ F a = none := by
  obtain ⟨n, hn⟩ := List.getElem?_of_mem h
  have hl : n < S.length := by rw [r.slen]; exact (List.getElem?_eq_some_iff.mp hn).1
  obtain ⟨q, f⟩ := r.sto n S[n] a (by simp [hl]) hn
  exact ⟨q.isob, f⟩
/-- new frozen objects -/
theorem R.grow (r : R G ent e S σ H F rho) (g : Grow H F H' F') : R G ent e S σ H' F' rho where
  len := r.len
  sub := g.ok r.sub
  val := fun i d h => let ⟨v, h1, h2⟩ := r.val i d h; ⟨v, h1, h2.mono (g.sub r.sub) (Pre.refl _)⟩
  own := fun i s h hs => by
    obtain ⟨a, h1, h2, h3, h4, h5⟩ := r.own i s h hs
    have q := g.old a h2.isob
    exact ⟨a, h1, h2.mono (g.sub r.sub) (Pre.refl _) q.1, q.2.trans h3, h4, h5⟩
  sep := r.sep
  slen := r.slen
  sto := fun n o a h1 h2 => by
    obtain ⟨q, f⟩ := r.sto n o a h1 h2
    have z := g.old a q.isob
    exact ⟨q.mono (g.sub r.sub) (Pre.refl _) z.1, z.2.trans f⟩
  nod := r.nod
  keep := fun a o h => by
    obtain ⟨h1, h2, h3⟩ := r.keep a o h
    exact ⟨g.subH a o h1, by rw [(g.old a (by rw [h1]; simp)).2]; exact h2, h3⟩
  sub0 := r.sub0.trans (g.sub r.sub)
  pre0 := r.pre0
/-- the start of a def -/
theorem R.start {ds : List D} {vs : List V} {n : Nat} (hsub : Sub F H) (hr : RepL G rho F vs ds) (hl : S.length = rho.length) (hs : ∀ (n : Nat) (o : Ob) (a : Addr), S[n]? = some o → rho[n]? = some a → ObRep G rho F H a o ∧ F a = none) (nd : rho.Nodup) :
    R G ⟨fun a o => H a = some o ∧ F a = none ∧ a ∉ rho, F, rho⟩ (ds.map (fun d => some (.val d)) ++ List.replicate n none) S (vs.map some ++ List.replicate n none) H F rho where
  len := by simp [hr.length]
  sub := hsub
  val := fun i d h => by
    by_cases hi : i < ds.length
    · rw [List.getElem?_append_left (by simpa using hi), List.getElem?_map] at h
      cases q : ds[i]? with
      | none => rw [q] at h; cases h
      | some x =>
        rw [q] at h
        cases h
        obtain ⟨v, h1, h2⟩ := hr.get q
        refine ⟨v, ?_, h2⟩
        rw [List.getElem?_append_left (by simpa [hr.length] using hi), List.getElem?_map, h1]; rfl
    · rw [List.getElem?_append_right (by simpa using hi), List.getElem?_replicate] at h
      split at h <;> cases h
  own := fun i s h hv => by
    by_cases hi : i < ds.length
    · rw [List.getElem?_append_left (by simpa using hi), List.getElem?_map] at h
      cases q : ds[i]? with
      | none => rw [q] at h; cases h
      | some x => rw [q] at h; cases h; cases hv
    · rw [List.getElem?_append_right (by simpa using hi), List.getElem?_replicate] at h
      split at h <;> cases h
  sep := fun i j s t a h hv => by
    by_cases hi : i < ds.length
    · rw [List.getElem?_append_left (by simpa using hi), List.getElem?_map] at h
      cases q : ds[i]? with
      | none => rw [q] at h; cases h
      | some x => rw [q] at h; cases h; cases hv
    · rw [List.getElem?_append_right (by simpa using hi), List.getElem?_replicate] at h
      split at h <;> cases h
  slen := hl
  sto := hs
  nod := nd
  keep := fun a o h => h
  sub0 := Sub.refl _
  pre0 := Pre.refl _

/-- what a call promises of the heap: from (H, F, rho) to (H', F', rho') -/
structure Post (H F : Hp) (rho : List Addr) (H' F' : Hp) (rho' : List Addr) : Prop where
  sub : Sub F F'
  pre : Pre rho rho'
  keep : ∀ a o, H a = some o → F a = none → a ∉ rho → H' a = some o ∧ F' a = none ∧ a ∉ rho'
/-- the tracked objects, as they stand -/
structure StoOk (G : Gb) (S : Sto) (H F : Hp) (rho : List Addr) : Prop where
  sub : Sub F H
  len : S.length = rho.length
  sto : ∀ (n : Nat) (o : Ob) (a : Addr), S[n]? = some o → rho[n]? = some a → ObRep G rho F H a o ∧ F a = none
  nod : rho.Nodup
theorem R.sok (r : R G ent e S σ H F rho) : StoOk G S H F rho := ⟨r.sub, r.slen, r.sto, r.nod⟩
theorem R.post {H0 F0 : Hp} {rho0 : List Addr} (r : R G ⟨fun a o => H0 a = some o ∧ F0 a = none ∧ a ∉ rho0, F0, rho0⟩ e S σ H F rho) : Post H0 F0 rho0 H F rho := ⟨r.sub0, r.pre0, fun a o h1 h2 h3 => r.keep a o ⟨h1, h2, h3⟩⟩
/-- behind a call -/
theorem R.call {S' : Sto} (r : R G ent e S σ H F rho) (k : StoOk G S' H' F' rho') (p : Post H F rho H' F' rho') : R G ent e S' σ H' F' rho' where
  len := r.len
  sub := k.sub
  val := fun i d h => let ⟨v, h1, h2⟩ := r.val i d h; ⟨v, h1, h2.mono p.sub p.pre⟩
  own := fun i s h hs => by
    obtain ⟨a, h1, h2, h3, h4, h5⟩ := r.own i s h hs
    obtain ⟨o, ho⟩ := Option.ne_none_iff_exists'.mp h2.isob
    obtain ⟨q1, q2, q3⟩ := p.keep a o ho h3 h5
    exact ⟨a, h1, h2.mono p.sub p.pre (q1.trans ho.symm), q2, h4, q3⟩
  sep := r.sep
  slen := k.len
  sto := k.sto
  nod := k.nod
  keep := fun a o h => by
    obtain ⟨h1, h2, h3⟩ := r.keep a o h
    exact p.keep a o h1 h2 h3
  sub0 := r.sub0.trans p.sub
  pre0 := r.pre0.trans p.pre
/-- fewer objects are kept -/
theorem R.less {ent' : Ent} (r : R G ent e S σ H F rho) (h1 : ∀ a o, ent'.Pr a o → ent.Pr a o) (h2 : ent'.F = ent.F) (h3 : ent'.rho = ent.rho) : R G ent' e S σ H F rho where
  len := r.len
  sub := r.sub
  val := r.val
  own := fun i s h hs => let ⟨a, q1, q2, q3, q4, q5⟩ := r.own i s h hs; ⟨a, q1, q2, q3, fun o z => q4 o (h1 a o z), q5⟩
  sep := r.sep
  slen := r.slen
  sto := r.sto
  nod := r.nod
  keep := fun a o h => r.keep a o (h1 a o h)
  sub0 := by rw [h2]; exact r.sub0
  pre0 := by rw [h3]; exact r.pre0
theorem R.fresh (r : R G ent e S σ H F rho) {p : Addr} (h : H p = none) (o : HO) : ¬ ent.Pr p o := fun q => by
  rw [(r.keep p o q).1] at h; cases h
end
end TM
namespace TM
open PySem PySem.Spec L2
open PyProof.Rows hiding St

inductive Out (α : Type) where
  | ok (a : α) (e : Env) (S : Sto) | exc (x : D) (e : Env) (S : Sto) | stuck
def Out.bind {α β : Type} (o : Out α) (k : α → Env → Sto → Out β) : Out β :=
  match o with
  | .ok a e S => k a e S
  | .exc x e S => .exc x e S
  | .stuck => .stuck
abbrev Ex := Env → Sto → Out D
inductive Fl where
  | next | brk | cont | ret (w : Slot)
abbrev Sm := Env → Sto → Out Fl

/-- an exception in flight -/
def XRep (G : Gb) (rho : List Addr) (F : Hp) (cls : Value) (d : Option Addr) : D → Prop
  | .exn c ns vs => ∃ C, G.mg c = some (.ref C) ∧ cls = .ref C ∧ ((d = none ∧ ns = [] ∧ vs = []) ∨ ∃ (da : Addr) (fs : List (Str × V)), d = some da ∧ F da = some (.xd fs) ∧ fs.map (·.1) = ns ∧ RepL G rho F (fs.map (·.2)) vs)
  | _ => False

/-- what is wanted of an exception that leaves, in terms of data -/
def postX (G : Gb) (W : WX) (ent : Ent) (σ : St) (F : Hp) (rho : List Addr) (x : D) (e : Env) (S : Sto) : Prop :=
  ∀ (H' F' : Hp) (rho' : List Addr) (cls : Value) (d : Option Addr), R G ent e S σ H' F' rho' → Sub F F' → Pre rho rho' → XRep G rho' F' cls d x → W cls d σ H'
def postE (G : Gb) (W : WX) (ent : Ent) (σ : St) (F : Hp) (rho : List Addr) (Q : VK) : Out D → Prop
  | .ok d e S => ∀ (v : V) (H' F' : Hp) (rho' : List Addr), R G ent e S σ H' F' rho' → Sub F F' → Pre rho rho' → Rep G rho' F' v d → Q v H'
  | .exc x e S => postX G W ent σ F rho x e S
  | .stuck => False
def rdE (G : Gb) (W : WX) (ent : Ent) (m : Ex) : TE := fun σ H Q => ∃ (e : Env) (S : Sto) (F : Hp) (rho : List Addr), R G ent e S σ H F rho ∧ postE G W ent σ F rho Q (m e S)

theorem _root_.L2.PE.weak {X : Cx} {e : Expr} {t t' : TE} (h : PE X e t) (w : ∀ σ H Q, t' σ H Q → t σ H Q) : PE X e t' := ⟨fun pins s σ H Q I q => h.run pins s σ H Q I (w σ H Q q)⟩
theorem _root_.L2.PT.weak {X : Cx} {e : Expr} {t t' : TT} (h : PT X e t) (w : ∀ σ H Q, t' σ H Q → t σ H Q) : PT X e t' := ⟨fun pins s σ H Q I q => h.run pins s σ H Q I (w σ H Q q)⟩
theorem _root_.L2.PW.weak {X : Cx} {e : Expr} {t t' : TT} (h : PW X e t) (w : ∀ σ H Q, t' σ H Q → t σ H Q) : PW X e t' := ⟨fun wh pins s σ H Q I q => h.run wh pins s σ H Q I (w σ H Q q)⟩
theorem _root_.L2.PA.weak {X : Cx} {e : List Expr} {t t' : TA} (h : PA X e t) (w : ∀ σ H Q, t' σ H Q → t σ H Q) : PA X e t' := ⟨fun p pins s σ H Q I q => h.run p pins s σ H Q I (w σ H Q q)⟩
theorem _root_.L2.PS.weak {X : Cx} {e : Stmt} {t t' : TS} (h : PS X e t) (w : ∀ D σ H, t' D σ H → t D σ H) : PS X e t' := ⟨fun pins s σ H D I q => h.run pins s σ H D I (w D σ H q)⟩
theorem _root_.L2.PSs.weak {X : Cx} {e : List Stmt} {t t' : TS} (h : PSs X e t) (w : ∀ D σ H, t' D σ H → t D σ H) : PSs X e t' := ⟨fun pins s σ H D I q => h.run pins s σ H D I (w D σ H q)⟩
/-- one of two readings -/
theorem _root_.L2.PE.orr {X : Cx} {e : Expr} {t t' : TE} (h : PE X e t) (h' : PE X e t') : PE X e (fun σ H Q => t σ H Q ∨ t' σ H Q) := ⟨fun pins s σ H Q I q => q.elim (h.run pins s σ H Q I) (h'.run pins s σ H Q I)⟩
theorem _root_.L2.PI.orr {X : Cx} {g e : Expr} {t t' : TI} (h : PI X g e t) (h' : PI X g e t') : PI X g e (fun σ H Q => t σ H Q ∨ t' σ H Q) := ⟨fun pins s σ H Q I q => q.elim (h.run pins s σ H Q I) (h'.run pins s σ H Q I)⟩

/-! operands -/
inductive Opr where
  | sl (i : Nat) | ex (m : Ex)
abbrev Wd := Sum Nat D
def evO : List Opr → Env → Sto → Out (List Wd)
  | [], e, S => .ok [] e S
  | .sl i :: os, e, S => match e[i]? with
    | some (some _) => (evO os e S).bind fun ws e S => .ok (.inl i :: ws) e S
    | _ => .stuck
  | .ex m :: os, e, S => (m e S).bind fun d e S => (evO os e S).bind fun ws e S => .ok (.inr d :: ws) e S
def resW (e : Env) : List Wd → Option (List D)
  | [] => some []
  | .inl i :: ws => match e[i]? with
    | some (some s) => (resW e ws).map (s.frz :: ·)
    | _ => none
  | .inr d :: ws => (resW e ws).map (d :: ·)
def evR (os : List Opr) : Env → Sto → Out (List D) := fun e S => (evO os e S).bind fun ws e S => match resW e ws with
  | some ds => .ok ds e S
  | none => .stuck

def tO (G : Gb) (W : WX) (ent : Ent) : Opr → TE
  | .sl i => tVar i
  | .ex m => rdE G W ent m
def tOs (G : Gb) (W : WX) (ent : Ent) : List Opr → TA
  | [] => tNil
  | o :: os => tCons (tO G W ent o) (tOs G W ent os)

/-- a word of data, or a slot -/
inductive RepO (G : Gb) (σ : St) (rho : List Addr) (F : Hp) : List V → List Wd → Prop
  | nil : RepO G σ rho F [] []
  | sl {i : Nat} {v : V} {vs : List V} {ws : List Wd} : σ[i]? = some (some v) → RepO G σ rho F vs ws → RepO G σ rho F (v :: vs) (.inl i :: ws)
  | ex {d : D} {v : V} {vs : List V} {ws : List Wd} : Rep G rho F v d → RepO G σ rho F vs ws → RepO G σ rho F (v :: vs) (.inr d :: ws)
/-- frozen data, or an owned object that is only looked at -/
def RepB (G : Gb) (rho : List Addr) (F H : Hp) (v : V) (d : D) : Prop := Rep G rho F v d ∨ ∃ (a : Addr) (s : Slot), v = .ref a ∧ OwnAt G rho F H a s ∧ d = s.frz
inductive RepBL (G : Gb) (rho : List Addr) (F H : Hp) : List V → List D → Prop
  | nil : RepBL G rho F H [] []
  | cons {v : V} {d : D} {vs : List V} {ds : List D} : RepB G rho F H v d → RepBL G rho F H vs ds → RepBL G rho F H (v :: vs) (d :: ds)
theorem RepL.toB {G : Gb} {rho : List Addr} {F H : Hp} : ∀ {vs : List V} {ds : List D}, RepL G rho F vs ds → RepBL G rho F H vs ds
  | _, _, .nil => .nil
  | _, _, .cons r l => .cons (.inl r) (RepL.toB l)

section
variable {G : Gb} {W : WX} {ent : Ent} {e : Env} {S : Sto} {σ : St} {H F H' F' : Hp} {rho rho' : List Addr}
theorem R.look (r : R G ent e S σ H F rho) {i : Nat} {s : Slot} {v : V} (h : e[i]? = some (some s)) (hv : σ[i]? = some (some v)) : RepB G rho F H v s.frz := by
  by_cases q : s.isVal = true
  · cases s with
    | val d =>
      obtain ⟨v', h1, h2⟩ := r.val i d h
      rw [h1] at hv; cases hv; exact .inl h2
    | own _ => cases q
    | ownd _ => cases q
    | ownt _ => cases q
  · obtain ⟨a, h1, h2, _⟩ := r.own i s h (by simpa using q)
    rw [h1] at hv; cases hv
    exact .inr ⟨a, s, rfl, h2, rfl⟩
theorem R.there (r : R G ent e S σ H F rho) {i : Nat} {s : Slot} (h : e[i]? = some (some s)) : ∃ v, σ[i]? = some (some v) := by
  by_cases q : s.isVal = true
  · cases s with
    | val d => obtain ⟨v, h1, _⟩ := r.val i d h; exact ⟨v, h1⟩
    | own _ => cases q
    | ownd _ => cases q
    | ownt _ => cases q
  · obtain ⟨a, h1, _⟩ := r.own i s h (by simpa using q)
    exact ⟨_, h1⟩
theorem R.res (r : R G ent e S σ H F rho) : ∀ {vs : List V} {ws : List Wd} {ds : List D}, RepO G σ rho F vs ws → resW e ws = some ds → RepBL G rho F H vs ds
  | _, _, _, .nil, h => by cases h; exact .nil
  | _, .inl i :: ws, ds, .sl hv l, h => by
    unfold resW at h
    split at h
    · rename_i s hs
      cases q : resW e ws with
      | none => rw [q] at h; cases h
      | some es =>
        rw [q] at h; cases h
        exact .cons (r.look hs hv) (R.res r l q)
    · cases h
  | _, .inr d :: ws, ds, .ex hd l, h => by
    unfold resW at h
    cases q : resW e ws with
    | none => rw [q] at h; cases h
    | some es =>
      rw [q] at h; cases h
      exact .cons (.inl hd) (R.res r l q)
theorem RepO.mono (s : Sub F F') (p : Pre rho rho') : ∀ {vs : List V} {ws : List Wd}, RepO G σ rho F vs ws → RepO G σ rho' F' vs ws
  | _, _, .nil => .nil
  | _, _, .sl h l => .sl h (RepO.mono s p l)
  | _, _, .ex h l => .ex (h.mono s p) (RepO.mono s p l)

def postO (G : Gb) (W : WX) (ent : Ent) (σ : St) (F : Hp) (rho : List Addr) (Q : List V → Hp → Prop) : Out (List Wd) → Prop
  | .ok ws e S => ∀ (vs : List V) (H' F' : Hp) (rho' : List Addr), R G ent e S σ H' F' rho' → Sub F F' → Pre rho rho' → RepO G σ rho' F' vs ws → Q vs H'
  | .exc x e S => postX G W ent σ F rho x e S
  | .stuck => False
theorem postX.mono {x : D} (s : Sub F F') (p : Pre rho rho') (h : postX G W ent σ F rho x e S) : postX G W ent σ F' rho' x e S := fun H2 F2 r2 c d hR hs hp hx => h H2 F2 r2 c d hR (s.trans hs) (p.trans hp) hx
theorem tOs_of : ∀ {os : List Opr} {e : Env} {S : Sto} {H F : Hp} {rho : List Addr} {Q : List V → Hp → Prop}, R G ent e S σ H F rho → postO G W ent σ F rho Q (evO os e S) → tOs G W ent os σ H Q
  | [], e, S, H, F, rho, Q, hR, hp => hp [] H F rho hR (Sub.refl _) (Pre.refl _) .nil
  | .sl i :: os, e, S, H, F, rho, Q, hR, hp => by
    unfold evO at hp
    split at hp
    · rename_i s hs
      obtain ⟨v, hv⟩ := hR.there hs
      refine ⟨v, hv, tOs_of hR ?_⟩
      cases q : evO os e S with
      | ok ws e' S' =>
        rw [q] at hp
        intro vs H' F' rho' hR' s p hr
        exact hp (v :: vs) H' F' rho' hR' s p (.sl hv hr)
      | exc x e' S' => rw [q] at hp; exact hp
      | stuck => rw [q] at hp; exact hp
    · exact hp.elim
  | .ex m :: os, e, S, H, F, rho, Q, hR, hp => by
    unfold evO at hp
    refine ⟨e, S, F, rho, hR, ?_⟩
    cases q : m e S with
    | ok d e1 S1 =>
      rw [q] at hp
      intro v H1 F1 rho1 hR1 s1 p1 r1
      refine tOs_of hR1 ?_
      have hp : postO G W ent σ F rho Q ((evO os e1 S1).bind fun ws e S => .ok (.inr d :: ws) e S) := hp
      cases q2 : evO os e1 S1 with
      | ok ws e2 S2 =>
        rw [q2] at hp
        intro vs H2 F2 rho2 hR2 s2 p2 hr
        exact hp (v :: vs) H2 F2 rho2 hR2 (s1.trans s2) (p1.trans p2) (.ex (r1.mono s2 p2) hr)
      | exc x e2 S2 => rw [q2] at hp; exact postX.mono s1 p1 hp
      | stuck => rw [q2] at hp; exact hp
    | exc x e1 S1 => rw [q] at hp; exact hp
    | stuck => rw [q] at hp; exact hp
/-- the operands' values as data -/
def postL (G : Gb) (W : WX) (ent : Ent) (σ : St) (F : Hp) (rho : List Addr) (Q : List V → Hp → Prop) : Out (List D) → Prop
  | .ok ds e S => ∀ (vs : List V) (H' F' : Hp) (rho' : List Addr), R G ent e S σ H' F' rho' → Sub F F' → Pre rho rho' → RepBL G rho' F' H' vs ds → Q vs H'
  | .exc x e S => postX G W ent σ F rho x e S
  | .stuck => False
theorem tOs_R {os : List Opr} {Q : List V → Hp → Prop} (hR : R G ent e S σ H F rho) (hp : postL G W ent σ F rho Q (evR os e S)) : tOs G W ent os σ H Q := by
  refine tOs_of hR ?_
  unfold evR at hp
  cases q : evO os e S with
  | ok ws e1 S1 =>
    rw [q] at hp
    intro vs H' F' rho' hR' s p hr
    have hp : postL G W ent σ F rho Q (match resW e1 ws with
      | some ds => .ok ds e1 S1
      | none => .stuck) := hp
    split at hp
    · rename_i ds hd
      exact hp vs H' F' rho' hR' s p (hR'.res hr hd)
    · exact hp.elim
  | exc x e1 S1 => rw [q] at hp; exact hp
  | stuck => rw [q] at hp; exact hp
end

/-! primitives -/
abbrev PF := List D → Option D
def bPrim (f : PF) (os : List Opr) : Ex := fun e S => (evR os e S).bind fun ds e S => match f ds with
  | some d => .ok d e S
  | none => .stuck
/-- from the operands' data a datum, by the rule r -/
def PrimOk (G : Gb) (r : List V → Hp → VK → Prop) (f : PF) : Prop :=
  ∀ {rho : List Addr} {F H : Hp} {vs : List V} {ds : List D} {d : D} {Q : VK}, Sub F H → RepBL G rho F H vs ds → f ds = some d → (∀ v H' F', Grow H F H' F' → Rep G rho F' v d → Q v H') → r vs H Q
section
variable {G : Gb} {W : WX} {ent : Ent}
theorem prim_of {r : List V → Hp → VK → Prop} {f : PF} {os : List Opr} {σ : St} {H : Hp} {Q : VK} (hf : PrimOk G r f) (h : rdE G W ent (bPrim f os) σ H Q) : tOs G W ent os σ H (fun vs H' => r vs H' Q) := by
  obtain ⟨e, S, F, rho, hR, hp⟩ := h
  refine tOs_R hR ?_
  unfold bPrim at hp
  cases q : evR os e S with
  | ok ds e1 S1 =>
    rw [q] at hp
    intro vs H' F' rho' hR' s p hr
    have hp : postE G W ent σ F rho Q (match f ds with
      | some d => .ok d e1 S1
      | none => .stuck) := hp
    split at hp
    · rename_i d hd
      exact hf hR'.sub hr hd fun v H2 F2 g r2 => hp v H2 F2 rho' (hR'.grow g) (s.trans (g.sub hR'.sub)) p r2
    · exact hp.elim
  | exc x e1 S1 => rw [q] at hp; exact hp
  | stuck => rw [q] at hp; exact hp
end
section
variable {G : Gb} {rho : List Addr} {F H : Hp} {v : V}
theorem repB_non (h : RepB G rho F H v .non) : v = .non := by
  rcases h with h | ⟨a, s, _, ho, e⟩
  · cases h; rfl
  · cases s <;> first | exact ho.elim | cases e
theorem repB_int {i : Int} (h : RepB G rho F H v (.int i)) : v = .int i := by
  rcases h with h | ⟨a, s, _, ho, e⟩
  · cases h; rfl
  · cases s <;> first | exact ho.elim | cases e
theorem repB_bl {i : Bool} (h : RepB G rho F H v (.bl i)) : v = .bl i := by
  rcases h with h | ⟨a, s, _, ho, e⟩
  · cases h; rfl
  · cases s <;> first | exact ho.elim | cases e
theorem repB_str {i : Str} (h : RepB G rho F H v (.str i)) : v = .str i := by
  rcases h with h | ⟨a, s, _, ho, e⟩
  · cases h; rfl
  · cases s <;> first | exact ho.elim | cases e
theorem repB_ty {n : String} (h : RepB G rho F H v (.ty n)) : v = .ty n := by
  rcases h with h | ⟨a, s, _, ho, e⟩
  · cases h; rfl
  · cases s <;> first | exact ho.elim | cases e
theorem repB_tup {ds : List D} (s : Sub F H) (h : RepB G rho F H v (.tup ds)) : ∃ a xs, v = .ref a ∧ SqT G.K H a xs ∧ xs.length ≤ sizeLine ∧ RepL G rho F xs ds := by
  rcases h with h | ⟨a, s, _, ho, e⟩
  · cases h with
    | tup h1 _ z h2 => exact ⟨_, _, rfl, sqT_mono s h1, z, h2⟩
  · cases s <;> first | exact ho.elim | cases e
theorem repB_lst {ds : List D} (s : Sub F H) (h : RepB G rho F H v (.lst ds)) : ∃ a xs, v = .ref a ∧ SqL G.K H a xs ∧ xs.length ≤ sizeLine ∧ RepL G rho F xs ds := by
  rcases h with h | ⟨a, s, rfl, ho, e⟩
  · cases h with
    | lst h1 z h2 => exact ⟨_, _, rfl, sqL_mono s h1, z, h2⟩
  · cases s with
    | val _ => exact ho.elim
    | own _ => obtain ⟨xs, h1, z, h2⟩ := ho; cases e; exact ⟨a, xs, rfl, .of h1, z, h2⟩
    | ownd _ => cases e
    | ownt _ => cases e
theorem repB_dct {ks : List Key} {ds : List D} (s : Sub F H) (h : RepB G rho F H v (.dct ks ds)) : ∃ a kvs, v = .ref a ∧ H a = some (.dK kvs) ∧ kvs.map (·.1) = ks ∧ RepL G rho F (kvs.map (·.2)) ds := by
  rcases h with h | ⟨a, s, rfl, ho, e⟩
  · cases h with
    | dct h1 z h2 => exact ⟨_, _, rfl, s _ _ h1, z, h2⟩
  · cases s with
    | val _ => exact ho.elim
    | own _ => cases e
    | ownd _ => obtain ⟨xs, h1, z, h2⟩ := ho; cases e; exact ⟨a, xs, rfl, h1, z, h2⟩
    | ownt _ => cases e
theorem repB_dctt {ks : List (List Key)} {ds : List D} (s : Sub F H) (h : RepB G rho F H v (.dctt ks ds)) : ∃ a kvs, v = .ref a ∧ H a = some (.dT kvs) ∧ kvs.map (·.1) = ks ∧ RepL G rho F (kvs.map (·.2)) ds := by
  rcases h with h | ⟨a, s, rfl, ho, e⟩
  · cases h with
    | dctt h1 z h2 => exact ⟨_, _, rfl, s _ _ h1, z, h2⟩
  · cases s with
    | val _ => exact ho.elim
    | own _ => cases e
    | ownd _ => cases e
    | ownt _ => obtain ⟨xs, h1, z, h2⟩ := ho; cases e; exact ⟨a, xs, rfl, h1, z, h2⟩
theorem repBL1 {vs : List V} {d : D} (h : RepBL G rho F H vs [d]) : ∃ v, vs = [v] ∧ RepB G rho F H v d := by
  cases h with | cons h t => cases t; exact ⟨_, rfl, h⟩
theorem repBL2 {vs : List V} {d d2 : D} (h : RepBL G rho F H vs [d, d2]) : ∃ v v2, vs = [v, v2] ∧ RepB G rho F H v d ∧ RepB G rho F H v2 d2 := by
  cases h with | cons h t => obtain ⟨v2, rfl, h2⟩ := repBL1 t; exact ⟨_, v2, rfl, h, h2⟩
theorem repBL3 {vs : List V} {d d2 d3 : D} (h : RepBL G rho F H vs [d, d2, d3]) : ∃ v v2 v3, vs = [v, v2, v3] ∧ RepB G rho F H v d ∧ RepB G rho F H v2 d2 ∧ RepB G rho F H v3 d3 := by
  cases h with | cons h t => obtain ⟨v2, v3, rfl, h2, h3⟩ := repBL2 t; exact ⟨_, v2, v3, rfl, h, h2, h3⟩
end
end TM
namespace TM
open PySem PySem.Spec L2
open PyProof.Rows hiding St

/-- small ints, seen to without long ways for the kernel -/
def smI : Int → Bool
  | .ofNat k => Nat.ble k 1152921504606846975
  | .negSucc k => Nat.ble k 1152921504606846974
def nnI : Int → Bool
  | .ofNat k => Nat.ble k 1152921504606846975
  | .negSucc _ => false
theorem smI_of {i : Int} (h : smI i = true) : -1152921504606846976 < i ∧ i < 1152921504606846976 := by
  cases i with
  | ofNat k =>
    have := Nat.le_of_ble_eq_true h
    have e : Int.ofNat k = (k : Int) := rfl
    omega
  | negSucc k =>
    have := Nat.le_of_ble_eq_true h
    omega
theorem smI_iff {i : Int} (h : -1152921504606846976 < i ∧ i < 1152921504606846976) : smI i = true := by
  cases i with
  | ofNat k => exact Nat.ble_eq_true_of_le (by have e : Int.ofNat k = (k : Int) := rfl; omega)
  | negSucc k => exact Nat.ble_eq_true_of_le (by omega)
theorem nnI_of {i : Int} (h : nnI i = true) : 0 ≤ i ∧ i < 1152921504606846976 := by
  cases i with
  | ofNat k =>
    have := Nat.le_of_ble_eq_true h
    have e : Int.ofNat k = (k : Int) := rfl
    omega
  | negSucc k => cases h
theorem nnI_iff {i : Int} (h : 0 ≤ i ∧ i < 1152921504606846976) : nnI i = true := by
  cases i with
  | ofNat k => exact Nat.ble_eq_true_of_le (by have e : Int.ofNat k = (k : Int) := rfl; omega)
  | negSucc k => omega

/-! data as PyData -/
mutual
def D.py : D → PyData
  | .non => .none | .bl b => .bool b | .int i => .int i | .str x => .str x
  | .tup ds => .tuple (D.pys ds) | .lst ds => .list (D.pys ds)
  | .dct _ _ => .none | .dctt _ _ => .none | .ref _ => .none | .fn _ => .none | .cls _ => .none | .ty _ => .none | .exn _ _ _ => .none
def D.pys : List D → List PyData
  | [] => []
  | d :: ds => d.py :: D.pys ds
end
mutual
/-- plain data, of texts that stand -/
def D.dat : D → Bool
  | .non => true | .bl _ => true | .int _ => true | .str x => PyData.strOk x
  | .tup ds => D.dats ds | .lst ds => D.dats ds
  | .dct _ _ => false | .dctt _ _ => false | .ref _ => false | .fn _ => false | .cls _ => false | .ty _ => false | .exn _ _ _ => false
def D.dats : List D → Bool
  | [] => true
  | d :: ds => d.dat && D.dats ds
end
mutual
def D.dep : D → Nat
  | .non => 0 | .bl _ => 0 | .int _ => 0 | .str _ => 0
  | .tup ds => D.deps ds + 1 | .lst ds => D.deps ds + 1
  | .dct _ _ => 0 | .dctt _ _ => 0 | .ref _ => 0 | .fn _ => 0 | .cls _ => 0 | .ty _ => 0 | .exn _ _ _ => 0
def D.deps : List D → Nat
  | [] => 0
  | d :: ds => max d.dep (D.deps ds)
end
theorem D.pys_map : ∀ ds : List D, D.pys ds = ds.map D.py
  | [] => rfl
  | d :: ds => by rw [D.pys, D.pys_map ds]; rfl
mutual
theorem D.canLay : ∀ d : D, d.dat = true → d.py.canLay0 = true
  | .non, _ => rfl
  | .bl _, _ => rfl
  | .int _, _ => rfl
  | .str x, h => by
    rw [D.dat] at h
    simpa only [D.py, PyData.canLay0] using h
  | .tup ds, h => D.canLays ds h
  | .lst ds, h => D.canLays ds h
  | .dct _ _, h => nomatch h
  | .dctt _ _, h => nomatch h
  | .ref _, h => nomatch h
  | .fn _, h => nomatch h
  | .cls _, h => nomatch h
  | .ty _, h => nomatch h
  | .exn _ _ _, h => nomatch h
theorem D.canLays : ∀ ds : List D, D.dats ds = true → PyData.canLayAll0 (D.pys ds) = true
  | [], _ => rfl
  | d :: ds, h => by
    have h : (d.dat && D.dats ds) = true := h
    rw [Bool.and_eq_true] at h
    show (d.py.canLay0 && PyData.canLayAll0 (D.pys ds)) = true
    rw [D.canLay d h.1, D.canLays ds h.2]; rfl
end
mutual
theorem D.depth : ∀ d : D, d.py.depth ≤ d.dep
  | .non => Nat.le_refl _
  | .bl _ => Nat.le_refl _
  | .int _ => Nat.le_refl _
  | .str x => Nat.le_refl _
  | .tup ds => Nat.succ_le_succ (D.depths ds)
  | .lst ds => Nat.succ_le_succ (D.depths ds)
  | .dct _ _ => Nat.le_refl _
  | .dctt _ _ => Nat.le_refl _
  | .ref _ => Nat.le_refl _
  | .fn _ => Nat.le_refl _
  | .cls _ => Nat.le_refl _
  | .ty _ => Nat.le_refl _
  | .exn _ _ _ => Nat.le_refl _
theorem D.depths : ∀ ds : List D, PyData.depthAll (D.pys ds) ≤ D.deps ds
  | [] => Nat.le_refl _
  | d :: ds => by
    show max d.py.depth (PyData.depthAll (D.pys ds)) ≤ max d.dep (D.deps ds)
    have h1 := D.depth d
    have h2 := D.depths ds
    omega
end
def D.shp (d : D) : Bool := d.dat && decide (d.dep ≤ 64)
theorem D.shaped {d : D} (h : d.shp = true) : SeqAt.shaped d.py = true := by
  unfold D.shp at h
  rw [Bool.and_eq_true] at h
  unfold SeqAt.shaped
  rw [D.canLay d h.1, Bool.true_and]
  exact decide_eq_true (Nat.le_trans (D.depth d) (of_decide_eq_true h.2))

section
variable {G : Gb} {rho : List Addr} {F H : Hp}
mutual
theorem Rep.dp (s : Sub F H) : ∀ {v : V} {d : D}, Rep G rho F v d → d.dat = true → Dp G.K H v d.py
  | _, _, .non, _ => .non
  | _, _, .bl b, _ => .bl b
  | _, _, .int b, _ => .int b
  | _, _, .str b, _ => .str b
  | _, _, .tup h _ _ l, q => .tup (sqT_mono s h) (RepL.dp s l q)
  | _, _, .lst h _ l, q => .lst (sqL_mono s h) (RepL.dp s l q)
  | _, _, .dct _ _ _, q => nomatch q
  | _, _, .dctt _ _ _, q => nomatch q
  | _, _, .ref _, q => nomatch q
  | _, _, .fn _, q => nomatch q
  | _, _, .cls _, q => nomatch q
  | _, _, .ty _, q => nomatch q
  | _, _, .exn _ _ _ _ _, q => nomatch q
  | _, _, .exn0 _ _, q => nomatch q
theorem RepL.dp (s : Sub F H) : ∀ {vs : List V} {ds : List D}, RepL G rho F vs ds → D.dats ds = true → DpAll G.K H vs (D.pys ds)
  | _, _, .nil, _ => .nil
  | _, d :: ds, .cons r l, q => by
    have h : (d.dat && D.dats ds) = true := q
    rw [Bool.and_eq_true] at h
    exact .cons (Rep.dp s r h.1) (RepL.dp s l h.2)
end
theorem RepB.dp (s : Sub F H) {v : V} {d : D} (h : RepB G rho F H v d) (q : d.dat = true) : Dp G.K H v d.py := by
  rcases h with h | ⟨a, t, rfl, ho, rfl⟩
  · exact h.dp s q
  · cases t with
    | val _ => exact ho.elim
    | own ds => obtain ⟨xs, h1, _, h2⟩ := ho; exact .lst (.of h1) (h2.dp s q)
    | ownd _ => cases q
    | ownt _ => cases q
end

/-! binary operators -/
def rL2 (r : R2) : List V → Hp → VK → Prop := fun vs H Q => match vs with
  | [x, y] => r x y H Q
  | _ => False
theorem opr_or {X : Cx} {f : Value → Value → Sem Value} {r r' : R2} (h : OpR X f r) (h' : OpR X f r') : OpR X f (fun x y H Q => r x y H Q ∨ r' x y H Q) := fun pins s σ H x y v u Q I rx ry q => q.elim (h pins s σ H x y v u Q I rx ry) (h' pins s σ H x y v u Q I rx ry)

/-- what is wanted of a datum that is made: a list is new -/
def Cont (G : Gb) (rho : List Addr) (F H : Hp) (Q : VK) : D → Prop
  | .lst es => ∀ (p : Addr) (xs : List V) (H1 F1 : Hp), Grow H F H1 F1 → H1 p = none → xs.length ≤ sizeLine → RepL G rho F1 xs es → Q (.ref p) (upd H1 p (.lst xs))
  | d => ∀ (v : V) (H1 F1 : Hp), Grow H F H1 F1 → Rep G rho F1 v d → Q v H1
def PrimFr (G : Gb) (r : List V → Hp → VK → Prop) (f : PF) : Prop :=
  ∀ {rho : List Addr} {F H : Hp} {vs : List V} {ds : List D} {d : D} {Q : VK}, Sub F H → RepBL G rho F H vs ds → f ds = some d → Cont G rho F H Q d → r vs H Q
theorem Cont.of {G : Gb} {rho : List Addr} {F H : Hp} {Q : VK} (s : Sub F H) {d : D} (h : ∀ v H' F', Grow H F H' F' → Rep G rho F' v d → Q v H') : Cont G rho F H Q d := by
  cases d with
  | lst es =>
    intro p xs H1 F1 g hp hz hr
    have g2 : Grow H1 F1 (upd H1 p (.lst xs)) (upd F1 p (.lst xs)) := Grow.alloc (g.ok s) hp
    exact h _ _ _ (g.trans g2) (.lst (.of upd_same) hz (hr.mono (g2.sub (g.ok s)) (Pre.refl _)))
  | _ => exact h
theorem PrimFr.ok {G : Gb} {r : List V → Hp → VK → Prop} {f : PF} (h : PrimFr G r f) : PrimOk G r f := fun s hr hf q => h s hr hf (Cont.of s q)

def rCatL (K : PySem.W.Frag) : R2 := fun x y H Q => ∃ l b xs zs, x = .ref l ∧ y = .ref b ∧ SqL K H l xs ∧ SqL K H b zs ∧ xs.length + zs.length ≤ sizeLine ∧ ∀ p, H p = none → Q (.ref p) (upd H p (.lst (xs ++ zs)))
theorem op_catL {X : Cx} : OpR X (binaryOp .Add) (rCatL X.K) := by
  intro pins s σ H x y v u Q I rx ry h
  obtain ⟨l, b, xs, zs, rfl, rfl, hH, hB, hz, q⟩ := h
  cases rx
  cases ry
  obtain ⟨its, r, ⟨⟨cls, dd, data, sls⟩, n, ho, hc, hdn, hdt⟩, hlen⟩ := I.list hH
  obtain ⟨its2, r2, ⟨⟨cls2, dd2, data2, sls2⟩, n2, ho2, hc2, hdn2, hdt2⟩, hlen2⟩ := I.list hB
  simp only at hc hdt hc2 hdt2
  subst hc hdt hc2 hdt2
  have e1 := r.length
  have e2 := r2.length
  have ea : its.toArray ++ its2.toArray = (its ++ its2).toArray := by simp
  refine concat_meets ⟨_, ho, rfl⟩ ⟨_, ho2, rfl⟩ noFill_list_add seq_list_add F.slot_list_add F.entry_list_add (F.args_list_add_2 _ _)
    (PyProof.Rows.list_addW l b its.toArray its2.toArray n n2 _ _ _ _ (by simp; omega)) ⟨ho, ho2, ?_⟩
  rw [ea]
  exact ⟨.ref _, _, I.lnew (t' := s.toks) (r.append r2) (by rw [List.length_append]; omega), rfl, q _ I.fresh⟩

def fAdd : PF
  | [.int i, .int j] => some (.int (i + j))
  | [.str x, .str y] => if x.length + y.length ≤ sizeLine then some (.str (x ++ y)) else none
  | [.tup a, .tup b] => if a.length + b.length ≤ sizeLine then some (.tup (a ++ b)) else none
  | [.lst a, .lst b] => if a.length + b.length ≤ sizeLine then some (.lst (a ++ b)) else none
  | _ => none
def rAddD (K : PySem.W.Frag) : R2 := fun x y H Q => (rI0 (fun i j => .int (i + j)) x y H Q ∨ (∃ i j, x = .str i ∧ y = .str j ∧ i.length + j.length ≤ sizeLine ∧ Q (.str (i ++ j)) H)) ∨ (rCatA K x y H Q ∨ rCatL K x y H Q)
theorem op_addD {X : Cx} : OpR X (binaryOp .Add) (rAddD X.K) := opr_or (opr_or op_add op_add_str) (opr_or op_catA op_catL)
theorem fr_add {G : Gb} : PrimFr G (rL2 (rAddD G.K)) fAdd := by
  intro rho F H vs ds d Q s hr hf q
  unfold fAdd at hf
  split at hf
  · cases hf
    obtain ⟨v, w, rfl, h1, h2⟩ := repBL2 hr
    cases repB_int h1; cases repB_int h2
    exact .inl (.inl ⟨_, _, rfl, rfl, q _ H F (Grow.refl s) (.int _)⟩)
  · split at hf
    · rename_i hz
      cases hf
      obtain ⟨v, w, rfl, h1, h2⟩ := repBL2 hr
      cases repB_str h1; cases repB_str h2
      exact .inl (.inr ⟨_, _, rfl, rfl, hz, q _ H F (Grow.refl s) (.str _)⟩)
    · cases hf
  · split at hf
    · rename_i hz
      cases hf
      obtain ⟨v, w, rfl, h1, h2⟩ := repBL2 hr
      obtain ⟨a, xs, rfl, t1, z1, l1⟩ := repB_tup s h1
      obtain ⟨b, ys, rfl, t2, z2, l2⟩ := repB_tup s h2
      have hz : xs.length + ys.length ≤ sizeLine := by rw [l1.length, l2.length]; exact hz
      refine .inr (.inl ⟨a, b, xs, ys, rfl, rfl, t1, t2, hz, fun e => ?_, fun e1 e2 => ?_, fun e1 e2 p hp => ?_⟩)
      · subst e; cases l1
        rcases h2 with h2 | ⟨_, t, _, ho, e⟩
        · exact q _ H F (Grow.refl s) h2
        · cases t <;> first | exact ho.elim | cases e
      · subst e2; cases l2
        rw [List.append_nil] at q
        rcases h1 with h1 | ⟨_, t, _, ho, e⟩
        · exact q _ H F (Grow.refl s) h1
        · cases t <;> first | exact ho.elim | cases e
      · have g := Grow.alloc (o := .tup (xs ++ ys)) s hp
        exact q _ _ _ g (.tup (.of upd_same) (fun _ => upd_same) (by rw [List.length_append]; exact hz) ((l1.append l2).mono (g.sub s) (Pre.refl _)))
    · cases hf
  · split at hf
    · rename_i hz
      cases hf
      obtain ⟨v, w, rfl, h1, h2⟩ := repBL2 hr
      obtain ⟨a, xs, rfl, t1, z1, l1⟩ := repB_lst s h1
      obtain ⟨b, ys, rfl, t2, z2, l2⟩ := repB_lst s h2
      have hz : xs.length + ys.length ≤ sizeLine := by rw [l1.length, l2.length]; exact hz
      exact .inr (.inr ⟨a, b, xs, ys, rfl, rfl, t1, t2, hz, fun p hp => q p _ H F (Grow.refl s) hp (by rw [List.length_append]; exact hz) (l1.append l2)⟩)
    · cases hf
  · cases hf

/-- two ints -/
theorem prim_ints {G : Gb} {C : Int → Int → Prop} {g : Int → Int → V} {f : PF} (h : ∀ ds d, f ds = some d → ∃ i j, ds = [.int i, .int j] ∧ C i j ∧ ∀ (rho : List Addr) (F : Hp), Rep G rho F (g i j) d) : PrimOk G (rL2 (rI C g)) f := by
  intro rho F H vs ds d Q s hr hf q
  obtain ⟨i, j, rfl, hc, hd⟩ := h _ _ hf
  obtain ⟨v, w, rfl, h1, h2⟩ := repBL2 hr
  cases repB_int h1; cases repB_int h2
  exact ⟨i, j, rfl, rfl, hc, q _ H F (Grow.refl s) (hd rho F)⟩
theorem opI0I {X : Cx} {f : Value → Value → Sem Value} {g : Int → Int → V} (h : OpR X f (rI0 g)) : OpR X f (rI (fun _ _ => True) g) := fun pins s σ H x y v u Q I rx ry ⟨i, j, a, b, _, q⟩ => h pins s σ H x y v u Q I rx ry ⟨i, j, a, b, q⟩
def fSub : PF
  | [.int i, .int j] => some (.int (i - j))
  | _ => none
theorem ok_sub {G : Gb} : PrimOk G (rL2 (rI (fun _ _ => True) fun i j => .int (i - j))) fSub := prim_ints fun ds d h => by
  unfold fSub at h
  split at h
  · cases h; exact ⟨_, _, rfl, trivial, fun _ _ => .int _⟩
  · cases h
def fFdiv : PF
  | [.int i, .int j] => if j ≠ 0 ∧ j.natAbs < 1073741824 then some (.int (i.fdiv j)) else none
  | _ => none
theorem ok_fdiv {G : Gb} : PrimOk G (rL2 (rI CDivN fun i j => .int (i.fdiv j))) fFdiv := prim_ints fun ds d h => by
  unfold fFdiv at h
  split at h
  · split at h
    · rename_i hc; cases h; exact ⟨_, _, rfl, hc, fun _ _ => .int _⟩
    · cases h
  · cases h
def fMod : PF
  | [.int i, .int j] => if j ≠ 0 then some (.int (i.fmod j)) else none
  | _ => none
theorem ok_mod {G : Gb} : PrimOk G (rL2 (rI (fun _ j => j ≠ 0) fun i j => .int (i.fmod j))) fMod := prim_ints fun ds d h => by
  unfold fMod at h
  split at h
  · split at h
    · rename_i hc; cases h; exact ⟨_, _, rfl, hc, fun _ _ => .int _⟩
    · cases h
  · cases h
def fPow : PF
  | [.int i, .int j] => if 0 ≤ j ∧ j ≤ 1000000 ∧ i.natAbs < 2 ^ 64 then some (.int (i ^ j.toNat)) else none
  | _ => none
theorem ok_pow {G : Gb} : PrimOk G (rL2 (rI CPow fun i j => .int (i ^ j.toNat))) fPow := prim_ints fun ds d h => by
  unfold fPow at h
  split at h
  · split at h
    · rename_i hc; cases h; exact ⟨_, _, rfl, hc, fun _ _ => .int _⟩
    · cases h
  · cases h
end TM
namespace TM
open PySem PySem.Spec L2
open PyProof.Rows hiding St

/-! products -/
def strRep (x : Str) (n : Int) : Str := ⟨(List.replicate n.toNat x.cps).foldl (· ++ ·) #[]⟩
theorem foldl_app (a : Array Nat) : ∀ (n : Nat) (b : Array Nat), (List.replicate n a).foldl (· ++ ·) b = b ++ (List.replicate n a).foldl (· ++ ·) #[]
  | 0, b => by simp
  | n + 1, b => by
    rw [List.replicate_succ, List.foldl_cons, List.foldl_cons, foldl_app a n (b ++ a), foldl_app a n (#[] ++ a)]
    simp [Array.append_assoc]
theorem foldl_toList (a : Array Nat) : ∀ (n : Nat), ((List.replicate n a).foldl (· ++ ·) #[]).toList = (List.replicate n a.toList).flatten
  | 0 => rfl
  | n + 1 => by
    rw [List.replicate_succ, List.foldl_cons, foldl_app, List.replicate_succ, List.flatten_cons]
    simp [foldl_toList a n]
theorem strRep_toList (x : Str) (n : Int) : (strRep x n).cps.toList = (List.replicate n.toNat x.cps.toList).flatten := foldl_toList _ _
def rMulS : R2 := fun x y H Q => ∃ (z : Str) (n : Int), x = .str z ∧ y = .int n ∧ -(2 ^ 63) ≤ n ∧ n < 2 ^ 63 ∧ z.length * n.toNat ≤ sizeLine ∧ Q (.str (strRep z n)) H
theorem op_mulS {X : Cx} : OpR X (binaryOp .Mult) rMulS := by
  intro pins s σ H x y v u Q I rx ry h
  obtain ⟨z, n, rfl, rfl, h1, h2, hz, q⟩ := h
  obtain ⟨t, rfl⟩ := rx
  obtain ⟨t', rfl⟩ := ry
  refine PySem.P.mul_str ?_ ?_ ?_ ?_
  · rw [decide_eq_false (by omega), decide_eq_false (by omega)]; rfl
  · intro a b c
    simp only [Bool.or_eq_false_iff, beq_eq_false_iff_ne, ne_eq] at b
    have hn : (2 : Int) ≤ n := by omega
    have : (z.length : Int) * n ≤ 16777216 := by
      have e : (n.toNat : Int) = n := by omega
      have : ((z.length * n.toNat : Nat) : Int) ≤ (sizeLine : Nat) := Int.ofNat_le.mpr hz
      rw [Int.natCast_mul, e] at this
      exact this
    have := Int.le_ediv_of_mul_le (a := z.length) (b := (2 ^ 63 - 1 : Int)) (c := n) (by omega) (by omega)
    omega
  · intro _ _
    unfold Builtin.Str.tooLong
    exact decide_eq_false (by omega)
  · by_cases a : n < 1
    · rw [if_pos a]
      refine ⟨by decide, ⟨.str (strRep z n), H, I.tok _, ⟨s.toks, ?_⟩, q⟩⟩
      have e : n.toNat = 0 := by omega
      unfold strRep; rw [e]; rfl
    · rw [if_neg a]
      by_cases b : (n == 1 || z.length == 0) = true
      · rw [if_pos b]
        have e : strRep z n = z := by
          have e2 : (strRep z n).cps.toList = z.cps.toList := by
            rw [strRep_toList]
            rw [Bool.or_eq_true] at b
            rcases b with b | b
            · have : n = 1 := by simpa using b
              subst this
              simp
            · have b : z.length = 0 := by simpa using b
              have b2 : z.cps.toList = [] := by
                have : z.cps.size = 0 := b
                exact List.length_eq_zero_iff.mp (by simpa using this)
              rw [b2]
              simp
          obtain ⟨c⟩ := z
          generalize strRep ⟨c⟩ n = w at e2 ⊢
          obtain ⟨w⟩ := w
          have : w = c := Array.toList_inj.mp e2
          rw [this]
        refine ⟨.str (strRep z n), H, I, ⟨t, ?_⟩, q⟩
        rw [e]
      · rw [if_neg b]
        refine ⟨?_, ⟨.str (strRep z n), H, I.tok _, ⟨_, rfl⟩, q⟩⟩
        show (strRep z n).cps.size ≤ sizeLine
        have : (strRep z n).cps.toList.length = n.toNat * z.length := by
          rw [strRep_toList]
          simp [List.length_flatten, Str.length]
        rw [Array.length_toList] at this
        rw [this, Nat.mul_comm]; exact hz
theorem rmul_lst (a : Int) (t : Tok) (l : Addr) (its : Array Value) (n : Nat) (dd : Option Addr) (sl : Array (Option Value)) :
    Meets (Builtin.«int.__rmul__» ⟨[.int a t, .ref l], []⟩) (fun _ R s => s.heap.get? l = some { cls := .type "list", dict := dd, data := .seq its n, slots := sl } ∧ R (.ok (.ret Value.notImplemented)) s) :=
  .of_wp fun prog w A R s h => by
    obtain ⟨hp, g, d, tk, os⟩ := s
    obtain ⟨hl, h⟩ := h
    wp_walk using wpAny_loadPart' hl
    exact ⟨_, rfl, h⟩
theorem mul_lst (l : Addr) (its : Array Value) (n : Nat) (dd : Option Addr) (sl : Array (Option Value)) (x : Int) (u : Tok) (c0 : ¬ (!Builtin.List.listFitsIndex x) = true) (c1 : ¬ its.size * x.toNat > (2 ^ 63 - 1) / 8) (c2 : ¬ Builtin.List.listTooLong (its.size * x.toNat) = true)
    (c3 : (List.foldl (fun a b => a ++ b) #[] (List.replicate (if its.isEmpty = true then 0 else x.toNat) its)).size ≤ sizeLine) :
    Meets (Builtin.«list.__mul__» ⟨[.ref l, .int x u], []⟩) (fun _ R s => s.heap.get? l = some { cls := .type "list", dict := dd, data := .seq its n, slots := sl } ∧
      R (.ok (.ret (Value.ref s.heap.objs.size))) { s with heap := s.heap.push { cls := Value.type "list", data := Data.seq (List.foldl (fun a b => a ++ b) #[] (List.replicate (if its.isEmpty = true then 0 else x.toNat) its)) }, toks := s.toks }) :=
  .of_wp fun prog w A R s h => by
    obtain ⟨hp, g, d, tk, os⟩ := s
    obtain ⟨hl, h⟩ := h
    have f1 := AutoSeq1.idx_int
    wp_walk using wpAny_loadPart' hl
    repeat (first
      | (refine wpAny_ite_false (decide_eq_false c0) ?_; wp_walk using wpAny_loadPart' hl)
      | (refine wpAny_ite_false (decide_eq_false c1) ?_; wp_walk using wpAny_loadPart' hl)
      | (refine wpAny_ite_false (decide_eq_false c2) ?_; wp_walk using wpAny_loadPart' hl)
      | (refine wpAny_ite_false (decide_eq_false (Nat.not_lt.mpr c3)) ?_; wp_walk using wpAny_loadPart' hl))
    exact ⟨_, rfl, h⟩
def rMulL (K : PySem.W.Frag) : R2 := fun x y H Q => ∃ l k xs, x = .ref l ∧ y = .int k ∧ SqL K H l xs ∧ -(2 ^ 63) ≤ k ∧ k < 2 ^ 63 ∧ xs.length * k.toNat ≤ sizeLine ∧
  ∀ p, H p = none → Q (.ref p) (upd H p (.lst (List.replicate k.toNat xs).flatten))
theorem op_mulL {X : Cx} : OpR X (binaryOp .Mult) (rMulL X.K) := by
  intro pins s σ H x y v u Q I rx ry h
  obtain ⟨l, k, xs, rfl, rfl, hH, h1, h2, hz, q⟩ := h
  cases rx
  obtain ⟨t, rfl⟩ := ry
  obtain ⟨its, r, ⟨⟨cls, dd, data, sl⟩, n, e, hc, hdn, hdt⟩, hlen⟩ := I.list hH
  simp only at hc hdt
  subst hc hdt
  have hl := r.length
  have hlen2 : its.toArray.size * k.toNat ≤ sizeLine := by rw [List.size_toArray, ← hl]; exact hz
  have hcap : ¬ its.toArray.size * k.toNat > (2 ^ 63 - 1) / 8 := by
    have : (sizeLine : Nat) ≤ (2 ^ 63 - 1) / 8 := by decide
    omega
  have hfit : ¬ (!Builtin.List.listFitsIndex k) = true := by
    rw [fitsIndex_both h1 h2]; exact Bool.false_ne_true
  have hlong : ¬ Builtin.List.listTooLong (its.toArray.size * k.toNat) = true := by
    rw [notLongL hlen2]; exact Bool.false_ne_true
  have hnew : List.foldl (fun a b => a ++ b) #[] (List.replicate (if its.toArray.isEmpty = true then 0 else k.toNat) its.toArray) = (List.replicate k.toNat its).flatten.toArray := by
    rw [L2.size_rep]
    cases its with
    | nil => simp
    | cons a r' => rw [if_neg (by simp)]
  have hfl : (List.replicate k.toNat its).flatten.length ≤ sizeLine := by
    rw [PyProof.Rows.lm_len_rep_flat, Nat.mul_comm, ← hl]; exact hz
  refine wpAny_binaryOp_repeat_ref (T := "list") (U := "int") (by decide) ⟨_, e, rfl⟩ (fun s' => typeIs_int s' k t) noFill_list_mul F.fills_int_mul F.slot_int_rmul repeat_list F.slot_int_index.lookup
    (call_meets F.slot_int_rmul (typeIs_int s k t) F.entry_int_rmul (F.args_int_rmul_2 _ _) (rmul_lst k t l its.toArray n dd sl)
      ⟨e, rfl, ⟨_, e, rfl⟩, call_meets F.slot_list_mul ⟨_, e, rfl⟩ F.entry_list_mul (F.args_list_mul_2 _ _) (mul_lst l its.toArray n dd sl k t hfit hcap hlong (by rw [hnew]; simpa using hfl)) ⟨e, ?_⟩⟩)
  rw [hnew]
  exact ⟨.ref _, _, I.lnew (t' := s.toks) (r.rep k.toNat) (by rw [PyProof.Rows.lm_len_rep_flat, Nat.mul_comm]; exact hz), rfl, q _ I.fresh⟩
theorem RepL.rep {G : Gb} {rho : List Addr} {F : Hp} {vs : List V} {ds : List D} (h : RepL G rho F vs ds) : ∀ n : Nat, RepL G rho F (List.replicate n vs).flatten (List.replicate n ds).flatten
  | 0 => .nil
  | n + 1 => by
    rw [List.replicate_succ, List.replicate_succ, List.flatten_cons, List.flatten_cons]
    exact h.append (RepL.rep h n)
def fMul : PF
  | [.int i, .int j] => if smI i = true ∨ smI j = true then some (.int (i * j)) else none
  | [.str x, .int n] => if smI n = true ∧ x.length * n.toNat ≤ sizeLine then some (.str (strRep x n)) else none
  | [.lst ds, .int n] => if smI n = true ∧ ds.length * n.toNat ≤ sizeLine then some (.lst (List.replicate n.toNat ds).flatten) else none
  | [.tup ds, .int n] => if ds ≠ [] ∧ smI n = true ∧ 2 ≤ n.toNat ∧ n.toNat ≤ 1000 ∧ ds.length ≤ 1000 then some (.tup (List.replicate n.toNat ds).flatten) else none
  | _ => none
def rMulD (K : PySem.W.Frag) : R2 := fun x y H Q => (rI CMul (fun i j => .int (i * j)) x y H Q ∨ rMulS x y H Q) ∨ (rMulL K x y H Q ∨ rRepT K x y H Q)
theorem op_mulD {X : Cx} : OpR X (binaryOp .Mult) (rMulD X.K) := opr_or (opr_or op_mul op_mulS) (opr_or op_mulL op_repT)
theorem fr_mul {G : Gb} : PrimFr G (rL2 (rMulD G.K)) fMul := by
  intro rho F H vs ds d Q s hr hf q
  unfold fMul at hf
  split at hf <;> (first | cases hf; done | skip)
  · split at hf
    · rename_i hc
      cases hf
      obtain ⟨v, w, rfl, h1, h2⟩ := repBL2 hr
      cases repB_int h1; cases repB_int h2
      refine .inl (.inl ⟨_, _, rfl, rfl, ?_, q _ H F (Grow.refl s) (.int _)⟩)
      rcases hc with hc | hc
      · have := smI_of hc; exact .inl ⟨by omega, by omega⟩
      · have := smI_of hc; exact .inr ⟨by omega, by omega⟩
    · cases hf
  · split at hf
    · rename_i hc
      cases hf
      obtain ⟨v, w, rfl, h1, h2⟩ := repBL2 hr
      cases repB_str h1; cases repB_int h2
      have hs := smI_of hc.1
      exact .inl (.inr ⟨_, _, rfl, rfl, by omega, by omega, hc.2, q _ H F (Grow.refl s) (.str _)⟩)
    · cases hf
  · split at hf
    · rename_i hc
      cases hf
      obtain ⟨v, w, rfl, h1, h2⟩ := repBL2 hr
      obtain ⟨a, xs, rfl, t1, z1, l1⟩ := repB_lst s h1
      cases repB_int h2
      have hz := hc.2
      have hs := smI_of hc.1
      rw [← l1.length] at hz
      refine .inr (.inl ⟨_, _, xs, rfl, rfl, t1, by omega, by omega, hz, fun p hp => ?_⟩)
      exact q p _ H F (Grow.refl s) hp (by rw [PyProof.Rows.lm_len_rep_flat, Nat.mul_comm]; exact hz) (l1.rep _)
    · cases hf
  · split at hf
    · rename_i hc
      cases hf
      obtain ⟨v, w, rfl, h1, h2⟩ := repBL2 hr
      obtain ⟨a, xs, rfl, t1, z1, l1⟩ := repB_tup s h1
      cases repB_int h2
      have hne : xs ≠ [] := fun e => hc.1 (by subst e; cases l1; rfl)
      obtain ⟨_, _, hc2, hc3, hc4⟩ := hc
      refine .inr (.inr ⟨_, _, xs, rfl, rfl, t1, hne, by omega, by omega, by rw [l1.length]; exact hc4, fun p hp => ?_⟩)
      refine q _ _ _ (Grow.alloc s hp) (.tup (.of upd_same) (fun _ => upd_same) ?_ ((l1.rep _).mono ((Grow.alloc s hp).sub s) (Pre.refl _)))
      rw [PyProof.Rows.lm_len_rep_flat, l1.length]
      exact Nat.le_trans (Nat.mul_le_mul hc3 hc4) (show 1000 * 1000 ≤ sizeLine by decide)
    · cases hf

/-! comparisons -/
def fEqB (x y : D) : Option Bool := match x, y with
  | .str a, .str b => some (decide (a = b))
  | x, y => if x.shp = true ∧ y.shp = true then some (PyData.eqv x.py y.py) else none
def fEq : PF
  | [x, y] => (fEqB x y).map .bl
  | _ => none
def fNe : PF
  | [x, y] => (fEqB x y).map fun b => .bl (!b)
  | _ => none
def rEqA (K : PySem.W.Frag) : R2 := fun x y H Q => rEq x y H Q ∨ rEqD K x y H Q
def rNeA (K : PySem.W.Frag) : R2 := fun x y H Q => rNe x y H Q ∨ rNeD K x y H Q
theorem op_eqA {X : Cx} (hu : X.A.units + 64 < cLine) : OpR X (compareOp .Eq) (rEqA X.K) := opr_or op_eq (op_eqD hu)
theorem op_neA {X : Cx} (hu : X.A.units + 64 < cLine) : OpR X (compareOp .NotEq) (rNeA X.K) := opr_or op_ne (op_neD hu)
theorem ok_eq {G : Gb} : PrimOk G (rL2 (rEqA G.K)) fEq := by
  intro rho F H vs ds d Q s hr hf q
  unfold fEq at hf
  split at hf
  · obtain ⟨v, w, rfl, h1, h2⟩ := repBL2 hr
    unfold fEqB at hf
    split at hf
    · cases hf
      cases repB_str h1; cases repB_str h2
      refine .inl ⟨rfl, ?_⟩
      have e : ∀ a b : Str, decide (V.str a = V.str b) = decide (a = b) := fun a b => by simp
      rw [e]
      exact q _ H F (Grow.refl s) (.bl _)
    · split at hf
      · rename_i hs
        cases hf
        exact .inr ⟨_, _, h1.dp s (Bool.and_eq_true_iff.mp hs.1).1, h2.dp s (Bool.and_eq_true_iff.mp hs.2).1, D.shaped hs.1, D.shaped hs.2, q _ H F (Grow.refl s) (.bl _)⟩
      · cases hf
  · cases hf
theorem ok_ne {G : Gb} : PrimOk G (rL2 (rNeA G.K)) fNe := by
  intro rho F H vs ds d Q s hr hf q
  unfold fNe at hf
  split at hf
  · obtain ⟨v, w, rfl, h1, h2⟩ := repBL2 hr
    unfold fEqB at hf
    split at hf
    · cases hf
      cases repB_str h1; cases repB_str h2
      refine .inl ⟨rfl, ?_⟩
      have e : ∀ a b : Str, decide (V.str a = V.str b) = decide (a = b) := fun a b => by simp
      rw [e]
      exact q _ H F (Grow.refl s) (.bl _)
    · split at hf
      · rename_i hs
        cases hf
        exact .inr ⟨_, _, h1.dp s (Bool.and_eq_true_iff.mp hs.1).1, h2.dp s (Bool.and_eq_true_iff.mp hs.2).1, D.shaped hs.1, D.shaped hs.2, q _ H F (Grow.refl s) (.bl _)⟩
      · cases hf
  · cases hf
end TM
namespace TM
open PySem PySem.Spec L2
open PyProof.Rows hiding St

def rStrB (g : Str → Str → Bool) : R2 := fun x y H Q => ∃ i j, x = .str i ∧ y = .str j ∧ Q (.bl (g i j)) H
/-- an order of ints or texts -/
def rOrd (gi : Int → Int → Bool) (gs : Str → Str → Bool) : R2 := fun x y H Q => rI0 (fun i j => .bl (gi i j)) x y H Q ∨ rStrB gs x y H Q
def fOrd (gi : Int → Int → Bool) (gs : Str → Str → Bool) : PF
  | [.int i, .int j] => some (.bl (gi i j))
  | [.str i, .str j] => some (.bl (gs i j))
  | _ => none
theorem ok_ord {G : Gb} {gi : Int → Int → Bool} {gs : Str → Str → Bool} : PrimOk G (rL2 (rOrd gi gs)) (fOrd gi gs) := by
  intro rho F H vs ds d Q s hr hf q
  unfold fOrd at hf
  split at hf
  · cases hf
    obtain ⟨v, w, rfl, h1, h2⟩ := repBL2 hr
    cases repB_int h1; cases repB_int h2
    exact .inl ⟨_, _, rfl, rfl, q _ H F (Grow.refl s) (.bl _)⟩
  · cases hf
    obtain ⟨v, w, rfl, h1, h2⟩ := repBL2 hr
    cases repB_str h1; cases repB_str h2
    exact .inr ⟨_, _, rfl, rfl, q _ H F (Grow.refl s) (.bl _)⟩
  · cases hf
def strLt (a b : Str) : Bool := decide (a.cps.toList < b.cps.toList)
abbrev fLt : PF := fOrd (fun i j => decide (i < j)) strLt
abbrev fLe : PF := fOrd (fun i j => decide (i ≤ j)) (fun a b => !strLt b a)
abbrev fGt : PF := fOrd (fun i j => decide (j < i)) (fun a b => strLt b a)
abbrev fGe : PF := fOrd (fun i j => decide (j ≤ i)) (fun a b => !strLt a b)
theorem op_ltD {X : Cx} : OpR X (compareOp .Lt) (rOrd (fun i j => decide (i < j)) strLt) := opr_or op_lt op_lt_str
theorem op_leD {X : Cx} : OpR X (compareOp .LtE) (rOrd (fun i j => decide (i ≤ j)) (fun a b => !strLt b a)) := opr_or op_le op_le_str
theorem op_gtD {X : Cx} : OpR X (compareOp .Gt) (rOrd (fun i j => decide (j < i)) (fun a b => strLt b a)) := opr_or op_gt op_gt_str
theorem op_geD {X : Cx} : OpR X (compareOp .GtE) (rOrd (fun i j => decide (j ≤ i)) (fun a b => !strLt a b)) := opr_or op_ge op_ge_str

/-! is None -/
def fIsN : PF
  | [d, .non] => some (.bl (match d with | .non => true | _ => false))
  | _ => none
def fNotN : PF
  | [d, .non] => some (.bl (match d with | .non => false | _ => true))
  | _ => none
theorem repB_isN {G : Gb} {rho : List Addr} {F H : Hp} {v : V} {d : D} (h : RepB G rho F H v d) : decide (v = .non) = (match d with | .non => true | _ => false) := by
  rcases h with h | ⟨a, t, rfl, ho, rfl⟩
  · cases h <;> simp
  · cases t with
    | val _ => exact ho.elim
    | own _ => simp [Slot.frz]
    | ownd _ => simp [Slot.frz]
    | ownt _ => simp [Slot.frz]
theorem ok_isN {G : Gb} : PrimOk G (rL2 (fun x y H Q => y = .non ∧ Q (.bl (decide (x = .non))) H)) fIsN := by
  intro rho F H vs ds d Q s hr hf q
  unfold fIsN at hf
  split at hf
  · rename_i dd
    cases hf
    obtain ⟨v, w, rfl, h1, h2⟩ := repBL2 hr
    cases repB_non h2
    refine ⟨rfl, ?_⟩
    rw [repB_isN h1]
    have := q _ H F (Grow.refl s) (.bl _)
    cases dd <;> exact this
  · cases hf
theorem ok_notN {G : Gb} : PrimOk G (rL2 (fun x y H Q => y = .non ∧ Q (.bl (!decide (x = .non))) H)) fNotN := by
  intro rho F H vs ds d Q s hr hf q
  unfold fNotN at hf
  split at hf
  · rename_i dd
    cases hf
    obtain ⟨v, w, rfl, h1, h2⟩ := repBL2 hr
    cases repB_non h2
    refine ⟨rfl, ?_⟩
    rw [repB_isN h1]
    have := q _ H F (Grow.refl s) (.bl _)
    cases dd <;> exact this
  · cases hf

/-! keys -/
def keyD : D → Option Key
  | .int i => some (.inl i)
  | .str x => some (.inr x)
  | _ => none
def keysD : List D → Option (List Key)
  | [] => some []
  | d :: ds => match keyD d, keysD ds with
    | some k, some ks => some (k :: ks)
    | _, _ => none
def kD : Key → D
  | .inl i => .int i
  | .inr x => .str x
theorem keyD_eq {d : D} {k : Key} (h : keyD d = some k) : d = kD k := by
  unfold keyD at h
  split at h <;> cases h <;> rfl
theorem keyD_kD (k : Key) : keyD (kD k) = some k := by cases k <;> rfl
theorem repB_key {G : Gb} {rho : List Addr} {F H : Hp} {v : V} {d : D} {k : Key} (h : RepB G rho F H v d) (e : keyD d = some k) : v = kV k := by
  cases keyD_eq e
  cases k with
  | inl i => exact repB_int h
  | inr x => exact repB_str h
theorem repL_keys {G : Gb} {rho : List Addr} {F : Hp} : ∀ {vs : List V} {ds : List D} {ks : List Key}, RepL G rho F vs ds → keysD ds = some ks → vs = ks.map kV
  | _, _, _, .nil, h => by cases h; rfl
  | _, d :: ds, _, .cons r l, h => by
    unfold keysD at h
    split at h
    · rename_i k ks h1 h2
      cases h
      rw [repL_keys l h2, List.map_cons, repB_key (H := F) (.inl r) h1]
    · cases h
def lookD {α : Type} [DecidableEq α] : List α → List D → α → Option D
  | k :: ks, v :: vs, x => if k = x then some v else lookD ks vs x
  | _, _, _ => none
theorem lookD_rep {α : Type} [DecidableEq α] {G : Gb} {rho : List Addr} {F : Hp} {k : α} : ∀ {kvs : List (α × V)} {ks : List α} {ds : List D}, kvs.map (·.1) = ks → RepL G rho F (kvs.map (·.2)) ds →
    (∀ d, lookD ks ds k = some d → ∃ v, valV kvs k = some v ∧ Rep G rho F v d) ∧ (valV kvs k).isSome = (lookD ks ds k).isSome
  | [], _, _, rfl, l => by
    cases l
    refine ⟨fun d h => ?_, ?_⟩
    · simp [lookD] at h
    · simp [lookD, valV]
  | kv :: r, _, _, rfl, l => by
    cases l with
    | cons h1 h2 =>
      have ih := lookD_rep (k := k) (kvs := r) rfl h2
      by_cases e : kv.1 = k
      · rw [valV_pos e]
        simp only [List.map_cons, lookD, if_pos e]
        exact ⟨fun d h => by cases h; exact ⟨_, rfl, h1⟩, rfl⟩
      · rw [valV_neg e]
        simp only [List.map_cons, lookD, if_neg e]
        exact ih
def dGetD (d k : D) : Option (Option D) := match d with
  | .dct ks vs => (keyD k).map fun x => lookD ks vs x
  | .dctt ks vs => match k with
    | .tup es => if keyish es = true then (keysD es).map fun x => lookD ks vs x else none
    | _ => none
  | _ => none
/-- what a dict holds -/
theorem dget_of {G : Gb} {rho : List Addr} {F H : Hp} {v w : V} {d k : D} {o : Option D} (s : Sub F H) (h : RepB G rho F H v d) (hk : RepB G rho F H w k) (e : dGetD d k = some o) :
    ∃ a ov, v = .ref a ∧ DGet H a w ov ∧ ov.isSome = o.isSome ∧ ∀ x, o = some x → ∃ y, ov = some y ∧ Rep G rho F y x := by
  unfold dGetD at e
  split at e
  · rename_i ks vs
    cases q : keyD k with
    | none => rw [q] at e; cases e
    | some x =>
      rw [q] at e
      cases e
      obtain ⟨a, kvs, rfl, h1, h2, h3⟩ := repB_dct s h
      obtain ⟨l1, l2⟩ := lookD_rep (k := x) h2 h3
      refine ⟨a, valV kvs x, rfl, .inl ⟨kvs, x, .inl h1, repB_key hk q, rfl⟩, l2, fun y hy => l1 y hy⟩
  · rename_i ks vs
    split at e
    · rename_i es
      split at e
      · rename_i hk2
        cases q : keysD es with
        | none => rw [q] at e; cases e
        | some x =>
          rw [q] at e
          cases e
          obtain ⟨a, kvs, rfl, h1, h2, h3⟩ := repB_dctt s h
          obtain ⟨l1, l2⟩ := lookD_rep (k := x) h2 h3
          rcases hk with hk | ⟨b, t, rfl, ho, et⟩
          · cases hk with
            | @tup b xs _ t1 t3 z t2 =>
              have ex := repL_keys t2 q
              subst ex
              exact ⟨a, valV kvs x, rfl, .inr ⟨kvs, x, b, .inl h1, rfl, s _ _ (t3 hk2), rfl⟩, l2, fun y hy => l1 y hy⟩
          · cases t <;> first | exact ho.elim | cases et
      · cases e
    · cases e
  · cases e
end TM
namespace TM
open PySem PySem.Spec L2
open PyProof.Rows hiding St

/-! in -/
def strIn (x z : Str) : Bool := match x.cps.toList with
  | [c] => decide (c ∈ z.cps.toList)
  | _ => !(Builtin.Str.occurrences z x 0 z.length 1).isEmpty
def rInS2 : R2 := fun x y H Q => ∃ i j, x = .str i ∧ y = .str j ∧ Q (.bl (strIn i j)) H
theorem str_one {x : Str} {c : Nat} (h : x.cps.toList = [c]) : x = ⟨#[c]⟩ := by
  obtain ⟨a⟩ := x
  have : a = #[c] := Array.toList_inj.mp h
  rw [this]
theorem op_inS2 {X : Cx} : OpR X (compareOp .In) rInS2 := by
  intro pins s σ H x y v u Q I rx ry h
  obtain ⟨i, j, rfl, rfl, q⟩ := h
  unfold strIn at q
  split at q
  · rename_i c hc
    cases str_one hc
    exact op_in_sign pins s σ H _ _ v u Q I rx ry ⟨c, j, rfl, rfl, q⟩
  · exact op_in_str pins s σ H _ _ v u Q I rx ry ⟨i, j, rfl, rfl, q⟩
def rNotInS2 : R2 := fun x y H Q => ∃ i j, x = .str i ∧ y = .str j ∧ Q (.bl (!strIn i j)) H
theorem op_notInS2 {X : Cx} : OpR X (compareOp .NotIn) rNotInS2 := by
  intro pins s σ H x y v u Q I rx ry h
  obtain ⟨i, j, rfl, rfl, q⟩ := h
  unfold strIn at q
  split at q
  · rename_i c hc
    cases str_one hc
    exact op_notIn_sign pins s σ H _ _ v u Q I rx ry ⟨c, j, rfl, rfl, q⟩
  · exact op_notIn_str pins s σ H _ _ v u Q I rx ry ⟨i, j, rfl, rfl, q⟩
def rInT (K : PySem.W.Frag) : R2 := fun x y H Q => ∃ d ds, Dp K H x d ∧ Dp K H y (.tuple ds) ∧ SeqAt.shaped d = true ∧ SeqAt.shaped (.tuple ds) = true ∧ Q (.bl (ds.any fun z => PyData.eqv z d)) H
theorem op_inT {X : Cx} (hu : X.A.units + 65 < cLine) : OpR X (compareOp .In) (rInT X.K) := by
  intro pins s σ H x y v u Q I rx ry h
  obtain ⟨d, ds, hd, he, sd, se, q⟩ := h
  obtain ⟨as, r1⟩ := Dp.reads I d x v hd rx
  obtain ⟨bs, r2⟩ := Dp.reads I (.tuple ds) y u he ry
  have c : PyData.canLayAll0 ds = true := by simpa only [PyData.canLay0] using SeqAt.canLay_of_shaped se
  exact SeqAt.in_tuple_reads r2 r1 c (SeqAt.canLay_of_shaped sd) (room_in_shaped sd hu) ⟨.bl _, H, I, rfl, q⟩
def rNotInT (K : PySem.W.Frag) : R2 := fun x y H Q => ∃ d ds, Dp K H x d ∧ Dp K H y (.tuple ds) ∧ SeqAt.shaped d = true ∧ SeqAt.shaped (.tuple ds) = true ∧ Q (.bl (!ds.any fun z => PyData.eqv z d)) H
theorem op_notInT {X : Cx} (hu : X.A.units + 65 < cLine) : OpR X (compareOp .NotIn) (rNotInT X.K) := by
  intro pins s σ H x y v u Q I rx ry h
  obtain ⟨d, ds, hd, he, sd, se, q⟩ := h
  obtain ⟨as, r1⟩ := Dp.reads I d x v hd rx
  obtain ⟨bs, r2⟩ := Dp.reads I (.tuple ds) y u he ry
  have c : PyData.canLayAll0 ds = true := by simpa only [PyData.canLay0] using SeqAt.canLay_of_shaped se
  exact SeqAt.notIn_tuple_reads r2 r1 c (SeqAt.canLay_of_shaped sd) (room_in_shaped sd hu) ⟨.bl _, H, I, rfl, q⟩
def rInK : R2 := fun y x H Q => ∃ a o, x = .ref a ∧ DGet H a y o ∧ Q (.bl o.isSome) H
theorem op_inK {X : Cx} (hu : X.A.units + 65 < cLine) : OpR X (compareOp .In) rInK := by
  intro pins s σ H x y v u Q I rx ry h
  obtain ⟨a, o, rfl, g, q⟩ := h
  cases ry
  exact d_in (by omega) I g rx fun s3 I3 => ⟨.bl o.isSome, H, I3, rfl, q⟩
def rNotInK : R2 := fun y x H Q => ∃ a o, x = .ref a ∧ DGet H a y o ∧ Q (.bl (!o.isSome)) H
theorem op_notInK {X : Cx} (hu : X.A.units + 65 < cLine) : OpR X (compareOp .NotIn) rNotInK := by
  intro pins s σ H x y v u Q I rx ry h
  obtain ⟨a, o, rfl, g, q⟩ := h
  cases ry
  exact d_notIn (by omega) I g rx fun s3 I3 => ⟨.bl (!o.isSome), H, I3, rfl, q⟩
def rInA (K : PySem.W.Frag) : R2 := fun x y H Q => (rInS2 x y H Q ∨ rInK x y H Q) ∨ (rInD K x y H Q ∨ rInT K x y H Q)
theorem op_inA {X : Cx} (hu : X.A.units + 65 < cLine) : OpR X (compareOp .In) (rInA X.K) := opr_or (opr_or op_inS2 (op_inK hu)) (opr_or (op_inD hu) (op_inT hu))
def rNotInA (K : PySem.W.Frag) : R2 := fun x y H Q => (rNotInS2 x y H Q ∨ rNotInK x y H Q) ∨ (rNotInD K x y H Q ∨ rNotInT K x y H Q)
theorem op_notInA {X : Cx} (hu : X.A.units + 65 < cLine) : OpR X (compareOp .NotIn) (rNotInA X.K) := opr_or (opr_or op_notInS2 (op_notInK hu)) (opr_or (op_notInD hu) (op_notInT hu))
def fInB : List D → Option Bool
  | [.str x, .str z] => some (strIn x z)
  | [x, .lst ds] => if x.shp = true ∧ (D.lst ds).shp = true then some (ds.any fun z => PyData.eqv z.py x.py) else none
  | [x, .tup ds] => if x.shp = true ∧ (D.tup ds).shp = true then some (ds.any fun z => PyData.eqv z.py x.py) else none
  | [x, d] => (dGetD d x).map (·.isSome)
  | _ => none
def fIn : PF := fun ds => (fInB ds).map .bl
def fNotIn : PF := fun ds => (fInB ds).map fun b => .bl (!b)
theorem any_py (x : D) (ds : List D) : ((D.pys ds).any fun z => PyData.eqv z x.py) = ds.any fun z => PyData.eqv z.py x.py := by
  rw [D.pys_map, List.any_map]; rfl
theorem in_core {G : Gb} {rho : List Addr} {F H : Hp} {vs : List V} {ds : List D} {b : Bool} (s : Sub F H) (hr : RepBL G rho F H vs ds) (hf : fInB ds = some b) :
    ∃ x y, vs = [x, y] ∧ ((∀ Q : VK, Q (.bl b) H → rInA G.K x y H Q) ∧ ∀ Q : VK, Q (.bl (!b)) H → rNotInA G.K x y H Q) := by
  unfold fInB at hf
  split at hf
  · cases hf
    obtain ⟨v, w, rfl, h1, h2⟩ := repBL2 hr
    cases repB_str h1; cases repB_str h2
    exact ⟨_, _, rfl, fun Q q => .inl (.inl ⟨_, _, rfl, rfl, q⟩), fun Q q => .inl (.inl ⟨_, _, rfl, rfl, q⟩)⟩
  · split at hf
    · rename_i hs
      cases hf
      obtain ⟨v, w, rfl, h1, h2⟩ := repBL2 hr
      rw [← any_py]
      have a1 := h1.dp s (Bool.and_eq_true_iff.mp hs.1).1
      have a2 := h2.dp s (Bool.and_eq_true_iff.mp hs.2).1
      exact ⟨v, w, rfl, fun Q q => .inr (.inl ⟨_, _, a1, a2, D.shaped hs.1, D.shaped hs.2, q⟩), fun Q q => .inr (.inl ⟨_, _, a1, a2, D.shaped hs.1, D.shaped hs.2, q⟩)⟩
    · cases hf
  · split at hf
    · rename_i hs
      cases hf
      obtain ⟨v, w, rfl, h1, h2⟩ := repBL2 hr
      rw [← any_py]
      have a1 := h1.dp s (Bool.and_eq_true_iff.mp hs.1).1
      have a2 := h2.dp s (Bool.and_eq_true_iff.mp hs.2).1
      exact ⟨v, w, rfl, fun Q q => .inr (.inr ⟨_, _, a1, a2, D.shaped hs.1, D.shaped hs.2, q⟩), fun Q q => .inr (.inr ⟨_, _, a1, a2, D.shaped hs.1, D.shaped hs.2, q⟩)⟩
    · cases hf
  · rename_i x d _ _ _
    obtain ⟨v, w, rfl, h1, h2⟩ := repBL2 hr
    cases q0 : dGetD d x with
    | none => rw [q0] at hf; cases hf
    | some o =>
      rw [q0] at hf
      cases hf
      obtain ⟨a, ov, rfl, g, e, _⟩ := dget_of s h2 h1 q0
      refine ⟨_, _, rfl, fun Q q => .inl (.inr ⟨a, ov, rfl, g, ?_⟩), fun Q q => .inl (.inr ⟨a, ov, rfl, g, ?_⟩)⟩
      · rw [e]; exact q
      · rw [e]; exact q
  · cases hf
theorem ok_in {G : Gb} : PrimOk G (rL2 (rInA G.K)) fIn := by
  intro rho F H vs ds d Q s hr hf q
  unfold fIn at hf
  cases h : fInB ds with
  | none => rw [h] at hf; cases hf
  | some b =>
    rw [h] at hf
    cases hf
    obtain ⟨x, y, rfl, k, _⟩ := in_core s hr h
    exact k Q (q _ H F (Grow.refl s) (.bl _))
theorem ok_notIn {G : Gb} : PrimOk G (rL2 (rNotInA G.K)) fNotIn := by
  intro rho F H vs ds d Q s hr hf q
  unfold fNotIn at hf
  cases h : fInB ds with
  | none => rw [h] at hf; cases hf
  | some b =>
    rw [h] at hf
    cases hf
    obtain ⟨x, y, rfl, _, k⟩ := in_core s hr h
    exact k Q (q _ H F (Grow.refl s) (.bl _))

/-! subscripts -/
def rDG : R2 := fun x y H Q => ∃ a v, x = .ref a ∧ DGet H a y (some v) ∧ Q v H
theorem ix_dic {X : Cx} (hu : X.A.units + 65 < cLine) : IxR X rDG := by
  intro value slice pins s σ H x y v u Q I rx ry h hs
  obtain ⟨a, z, rfl, g, q⟩ := h
  cases rx
  exact tail_any (dict_typeIs I g) PySem.F.slot_dict_getitem.lookup (d_getItem (by omega) I g ry fun w' s3 I3 rw' => ⟨z, H, I3, rw', q⟩) hs
def rIxA (K : PySem.W.Frag) : R2 := fun x y H Q => rIx K x y H Q ∨ rDG x y H Q
theorem ix_all {X : Cx} (hu : X.A.units + 65 < cLine) : IxR X (rIxA X.K) := ix_seq.or (ix_dic hu)
def fIx : PF
  | [.lst ds, .int i] => atI ds i
  | [.tup ds, .int i] => atI ds i
  | [.str z, .int i] => if z.length ≤ sizeLine then (atI z.cps.toList i).map fun c => .str ⟨#[c]⟩ else none
  | [d, k] => (dGetD d k).bind id
  | _ => none
theorem atI_rep {G : Gb} {rho : List Addr} {F : Hp} {vs : List V} {ds : List D} {i : Int} {d : D} (l : RepL G rho F vs ds) (h : atI ds i = some d) : ∃ v, atI vs i = some v ∧ Rep G rho F v d := by
  unfold atI at h ⊢
  rw [l.length]
  cases e : ixN ds.length i with
  | none => rw [e] at h; cases h
  | some j =>
    rw [e] at h
    exact l.get h
theorem ok_ix {G : Gb} : PrimOk G (rL2 (rIxA G.K)) fIx := by
  intro rho F H vs ds d Q s hr hf q
  unfold fIx at hf
  split at hf
  · obtain ⟨v, w, rfl, h1, h2⟩ := repBL2 hr
    cases repB_int h2
    obtain ⟨a, xs, rfl, t1, z1, l1⟩ := repB_lst s h1
    obtain ⟨x, e, r⟩ := atI_rep l1 hf
    exact .inl (.inl ⟨a, xs, _, x, rfl, rfl, t1, e, q _ H F (Grow.refl s) r⟩)
  · obtain ⟨v, w, rfl, h1, h2⟩ := repBL2 hr
    cases repB_int h2
    obtain ⟨a, xs, rfl, t1, z1, l1⟩ := repB_tup s h1
    obtain ⟨x, e, r⟩ := atI_rep l1 hf
    exact .inl (.inr (.inl ⟨a, xs, _, x, rfl, rfl, t1, e, q _ H F (Grow.refl s) r⟩))
  · split at hf
    · rename_i hz
      obtain ⟨v, w, rfl, h1, h2⟩ := repBL2 hr
      cases repB_int h2; cases repB_str h1
      obtain ⟨c, hc, rfl⟩ := Option.map_eq_some_iff.mp hf
      exact .inl (.inr (.inr ⟨_, _, c, rfl, rfl, hz, hc, q _ H F (Grow.refl s) (.str _)⟩))
    · cases hf
  · rename_i d0 k _ _ _
    obtain ⟨v, w, rfl, h1, h2⟩ := repBL2 hr
    cases q0 : dGetD d0 k with
    | none => rw [q0] at hf; cases hf
    | some o =>
      rw [q0] at hf
      cases o with
      | none => cases hf
      | some x =>
        cases hf
        obtain ⟨a, ov, rfl, g, _, k⟩ := dget_of s h1 h2 q0
        obtain ⟨y, rfl, r⟩ := k _ rfl
        exact .inr ⟨a, y, rfl, g, q _ H F (Grow.refl s) r⟩
  · cases hf

/-! displays -/
def fTup : PF := fun ds => some (.tup ds)
theorem RepB.frozen {G : Gb} {rho : List Addr} {F H : Hp} {v : V} {d : D} (h : RepB G rho F H v d) (n : ∀ a s, v = .ref a → ¬ OwnAt G rho F H a s) : Rep G rho F v d := by
  rcases h with h | ⟨a, s, e, ho, _⟩
  · exact h
  · exact absurd ho (n a s e)
end TM
namespace TM
open PySem PySem.Spec L2
open PyProof.Rows hiding St

section
variable {G : Gb} {W : WX} {ent : Ent} {e : Env} {S : Sto} {σ : St} {H F H' F' : Hp} {rho rho' : List Addr}
/-- an object is laid that no slot names -/
theorem R.lay (r : R G ent e S σ H F rho) {p : Addr} {o : HO} (hp : H p = none) : R G ent e S σ (upd H p o) F rho where
  len := r.len
  sub := fun a u h => by
    have q := r.sub a u h
    rw [upd_ne (ne_of_none q hp)]; exact q
  val := r.val
  own := fun i s h hs => by
    obtain ⟨a, h1, h2, h3, h4, h5⟩ := r.own i s h hs
    obtain ⟨u, hu⟩ := Option.ne_none_iff_exists'.mp h2.isob
    exact ⟨a, h1, h2.mono (Sub.refl _) (Pre.refl _) (upd_ne (ne_of_none hu hp)), h3, h4, h5⟩
  sep := r.sep
  slen := r.slen
  sto := fun n u a h1 h2 => by
    obtain ⟨q, f⟩ := r.sto n u a h1 h2
    obtain ⟨w, hw⟩ := Option.ne_none_iff_exists'.mp q.isob
    exact ⟨q.mono (Sub.refl _) (Pre.refl _) (upd_ne (ne_of_none hw hp)), f⟩
  nod := r.nod
  keep := fun a u h => by
    obtain ⟨h1, h2, h3⟩ := r.keep a u h
    exact ⟨by rw [upd_ne (ne_of_none h1 hp)]; exact h1, h2, h3⟩
  sub0 := r.sub0
  pre0 := r.pre0
theorem OwnAt.obj {a : Addr} : ∀ {s : Slot}, OwnAt G rho F H a s → ∃ o, H a = some o ∧ Rep G rho (upd F a o) (.ref a) s.frz ∨ F a ≠ none
  | .val _, h => h.elim
  | .own ds, ⟨xs, h1, z, h2⟩ => by
    by_cases q : F a = none
    · refine ⟨_, .inl ⟨h1, .lst (.of upd_same) z (h2.mono (fun b u hb => ?_) (Pre.refl _))⟩⟩
      rw [upd_ne (fun e => by subst e; rw [q] at hb; cases hb)]; exact hb
    · exact ⟨.rng 0 0, .inr q⟩
  | .ownd kvs, ⟨xs, h1, z, h2⟩ => by
    by_cases q : F a = none
    · refine ⟨_, .inl ⟨h1, .dct upd_same z (h2.mono (fun b u hb => ?_) (Pre.refl _))⟩⟩
      rw [upd_ne (fun e => by subst e; rw [q] at hb; cases hb)]; exact hb
    · exact ⟨.rng 0 0, .inr q⟩
  | .ownt kvs, ⟨xs, h1, z, h2⟩ => by
    by_cases q : F a = none
    · refine ⟨_, .inl ⟨h1, .dctt upd_same z (h2.mono (fun b u hb => ?_) (Pre.refl _))⟩⟩
      rw [upd_ne (fun e => by subst e; rw [q] at hb; cases hb)]; exact hb
    · exact ⟨.rng 0 0, .inr q⟩
/-- an object that is not frozen yet, and that no other slot owns, is frozen -/
theorem R.frzAt (r : R G ent e S σ H F rho) {a : Addr} {o : HO} (ha : H a = some o) (hf : F a = none) (h0 : ∀ o, ¬ ent.Pr a o) (hr : a ∉ rho)
    (hn : ∀ (i : Nat) (t : Slot), e[i]? = some (some t) → t.isVal = false → σ[i]? ≠ some (some (.ref a))) : R G ent e S σ H (upd F a o) rho ∧ Sub F (upd F a o) := by
  have sb : Sub F (upd F a o) := fun b u h => by
    rw [upd_ne (fun e => by subst e; rw [hf] at h; cases h)]; exact h
  refine ⟨⟨r.len, fun b u h => ?_, fun i d h => ?_, fun i s h hs => ?_, r.sep, r.slen, fun n u b h1 h2 => ?_, r.nod, fun b u h => ?_, r.sub0.trans sb, r.pre0⟩, sb⟩
  · by_cases e : b = a
    · subst e; rw [upd_same] at h; cases h; exact ha
    · rw [upd_ne e] at h; exact r.sub b u h
  · obtain ⟨v, h1, h2⟩ := r.val i d h
    exact ⟨v, h1, h2.mono sb (Pre.refl _)⟩
  · obtain ⟨b, h1, h2, h3, h4, h5⟩ := r.own i s h hs
    have nb : b ≠ a := fun e => hn i s h hs (e ▸ h1)
    exact ⟨b, h1, h2.mono sb (Pre.refl _) rfl, by rw [upd_ne nb]; exact h3, h4, h5⟩
  · obtain ⟨q, f⟩ := r.sto n u b h1 h2
    have nb : b ≠ a := fun e => hr (e ▸ List.mem_of_getElem? h2)
    exact ⟨q.mono sb (Pre.refl _) rfl, by rw [upd_ne nb]; exact f⟩
  · obtain ⟨k1, k2, k3⟩ := r.keep b u h
    have nb : b ≠ a := fun e => h0 u (e ▸ h)
    exact ⟨k1, by rw [upd_ne nb]; exact k2, k3⟩
theorem get_set {α : Type} {l : List α} {i j : Nat} {a b : α} (h : (l.set i a)[j]? = some b) : (i = j ∧ b = a) ∨ (i ≠ j ∧ l[j]? = some b) := by
  by_cases e : i = j
  · subst e
    by_cases hi : i < l.length
    · rw [List.getElem?_set_self hi] at h; cases h; exact .inl ⟨rfl, rfl⟩
    · rw [List.getElem?_eq_none (by simpa using hi)] at h; cases h
  · rw [List.getElem?_set_ne e] at h; exact .inr ⟨e, h⟩
/-- a slot forgotten -/
theorem R.drop (r : R G ent e S σ H F rho) (i : Nat) : R G ent (e.set i none) S σ H F rho where
  len := by rw [List.length_set]; exact r.len
  sub := r.sub
  val := fun j d h => by
    rcases get_set h with ⟨_, q⟩ | ⟨_, q⟩
    · cases q
    · exact r.val j d q
  own := fun j s h => by
    rcases get_set h with ⟨_, q⟩ | ⟨_, q⟩
    · cases q
    · exact r.own j s q
  sep := fun j k s t a h1 v1 h2 v2 => by
    rcases get_set h1 with ⟨_, q⟩ | ⟨_, q⟩
    · cases q
    · rcases get_set h2 with ⟨_, q2⟩ | ⟨_, q2⟩
      · cases q2
      · exact r.sep j k s t a q v1 q2 v2
  slen := r.slen
  sto := r.sto
  nod := r.nod
  keep := r.keep
  sub0 := r.sub0
  pre0 := r.pre0

/-- what a value is, with the right to it -/
def WRep (G : Gb) (ent : Ent) (rho : List Addr) (F H : Hp) (e : Env) (σ : St) (v : V) : Slot → Prop
  | .val d => Rep G rho F v d
  | s => ∃ a, v = .ref a ∧ OwnAt G rho F H a s ∧ F a = none ∧ (∀ o, ¬ ent.Pr a o) ∧ a ∉ rho ∧ ∀ (i : Nat) (t : Slot), e[i]? = some (some t) → t.isVal = false → σ[i]? ≠ some (some (.ref a))
theorem WRep.own_of {v : V} {s : Slot} (h : WRep G ent rho F H e σ v s) (hs : s.isVal = false) : ∃ a, v = .ref a ∧ OwnAt G rho F H a s ∧ F a = none ∧ (∀ o, ¬ ent.Pr a o) ∧ a ∉ rho ∧ ∀ (i : Nat) (t : Slot), e[i]? = some (some t) → t.isVal = false → σ[i]? ≠ some (some (.ref a)) := by
  cases s with
  | val _ => cases hs
  | own _ => exact h
  | ownd _ => exact h
  | ownt _ => exact h
theorem WRep.of_own {v : V} {s : Slot} (hs : s.isVal = false) (h : ∃ a, v = .ref a ∧ OwnAt G rho F H a s ∧ F a = none ∧ (∀ o, ¬ ent.Pr a o) ∧ a ∉ rho ∧ ∀ (i : Nat) (t : Slot), e[i]? = some (some t) → t.isVal = false → σ[i]? ≠ some (some (.ref a))) : WRep G ent rho F H e σ v s := by
  cases s with
  | val _ => cases hs
  | own _ => exact h
  | ownd _ => exact h
  | ownt _ => exact h
/-- a value is frozen -/
theorem R.frz (r : R G ent e S σ H F rho) {v : V} {s : Slot} (h : WRep G ent rho F H e σ v s) : ∃ F', Sub F F' ∧ R G ent e S σ H F' rho ∧ Rep G rho F' v s.frz := by
  by_cases hs : s.isVal = true
  · cases s with
    | val d => exact ⟨F, Sub.refl _, r, h⟩
    | own _ => cases hs
    | ownd _ => cases hs
    | ownt _ => cases hs
  · obtain ⟨a, rfl, ho, hf, h0, hr, hn⟩ := h.own_of (by simpa using hs)
    obtain ⟨o, ⟨q1, q2⟩ | q⟩ := ho.obj
    · obtain ⟨r', sb⟩ := r.frzAt q1 hf h0 hr hn
      exact ⟨_, sb, r', q2⟩
    · exact absurd hf q
/-- a slot is read as a value: an owned object is frozen -/
theorem R.read (r : R G ent e S σ H F rho) {i : Nat} {s : Slot} (h : e[i]? = some (some s)) (hs : s.isVal = false) :
    ∃ F' v, Sub F F' ∧ R G ent (e.set i (some (.val s.frz))) S σ H F' rho ∧ σ[i]? = some (some v) ∧ Rep G rho F' v s.frz := by
  obtain ⟨a, h1, h2, h3, h4, h5⟩ := r.own i s h hs
  have r1 := r.drop i
  have hi : i < e.length := (List.getElem?_eq_some_iff.mp h).1
  obtain ⟨o, ⟨q1, q2⟩ | q⟩ := h2.obj
  · obtain ⟨r2, sb⟩ := r1.frzAt q1 h3 h4 h5 fun j t hj ht hj2 => by
      rcases get_set hj with ⟨_, q⟩ | ⟨ne, q⟩
      · cases q
      · exact ne (r.sep i j s t a h hs q ht h1 hj2)
    refine ⟨_, .ref a, sb, ⟨?_, r2.sub, fun j d hj => ?_, fun j t hj ht => ?_, fun j k t u b hj ht hk hu => ?_, r2.slen, r2.sto, r2.nod, r2.keep, r2.sub0, r2.pre0⟩, h1, q2⟩
    · rw [List.length_set]; exact r.len
    · rcases get_set hj with ⟨e1, q⟩ | ⟨ne, q⟩
      · subst e1; cases q; exact ⟨_, h1, q2⟩
      · exact r2.val j d (by rw [List.getElem?_set_ne ne]; exact q)
    · rcases get_set hj with ⟨e1, q⟩ | ⟨ne, q⟩
      · cases q; cases ht
      · exact r2.own j t (by rw [List.getElem?_set_ne ne]; exact q) ht
    · rcases get_set hj with ⟨e1, q⟩ | ⟨ne, q⟩
      · cases q; cases ht
      · rcases get_set hk with ⟨e1, q'⟩ | ⟨ne', q'⟩
        · cases q'; cases hu
        · exact r.sep j k t u b q ht q' hu
  · exact absurd h3 q
/-- a slot is stored -/
theorem R.setW (r : R G ent e S σ H F rho) {v : V} {s : Slot} (h : WRep G ent rho F H e σ v s) (i : Nat) : R G ent (e.set i (some s)) S (σ.set i (some v)) H F rho where
  len := by rw [List.length_set, List.length_set]; exact r.len
  sub := r.sub
  val := fun j d hj => by
    rcases get_set hj with ⟨e1, q⟩ | ⟨ne, q⟩
    · subst e1
      cases q
      have hi : i < σ.length := by
        have := (List.getElem?_eq_some_iff.mp hj).1
        rw [List.length_set, r.len] at this; exact this
      exact ⟨v, List.getElem?_set_self hi, h⟩
    · obtain ⟨v', h1, h2⟩ := r.val j d q
      exact ⟨v', by rw [List.getElem?_set_ne ne]; exact h1, h2⟩
  own := fun j t hj ht => by
    rcases get_set hj with ⟨e1, q⟩ | ⟨ne, q⟩
    · subst e1
      cases q
      have hi : i < σ.length := by
        have := (List.getElem?_eq_some_iff.mp hj).1
        rw [List.length_set, r.len] at this; exact this
      obtain ⟨a, rfl, ho, hf, h0, hr, _⟩ := h.own_of ht
      exact ⟨a, List.getElem?_set_self hi, ho, hf, h0, hr⟩
    · obtain ⟨a, h1, h2⟩ := r.own j t q ht
      exact ⟨a, by rw [List.getElem?_set_ne ne]; exact h1, h2⟩
  sep := fun j k t u b hj ht hk hu sj sk => by
    rcases get_set hj with ⟨e1, q⟩ | ⟨ne, q⟩
    · subst e1
      rcases get_set hk with ⟨e2, q2⟩ | ⟨ne2, q2⟩
      · exact e2
      · cases q
        obtain ⟨a, rfl, ho, hf, h0, hr, hn⟩ := h.own_of ht
        have hi : i < σ.length := by
          have := (List.getElem?_eq_some_iff.mp hj).1
          rw [List.length_set, r.len] at this; exact this
        rw [List.getElem?_set_self hi] at sj
        cases sj
        rw [List.getElem?_set_ne ne2] at sk
        exact absurd sk (hn k u q2 hu)
    · rcases get_set hk with ⟨e2, q2⟩ | ⟨ne2, q2⟩
      · subst e2
        cases q2
        obtain ⟨a, rfl, ho, hf, h0, hr, hn⟩ := h.own_of hu
        have hi : i < σ.length := by
          have := (List.getElem?_eq_some_iff.mp hk).1
          rw [List.length_set, r.len] at this; exact this
        rw [List.getElem?_set_self hi] at sk
        cases sk
        rw [List.getElem?_set_ne ne] at sj
        exact absurd sj (hn j t q ht)
      · rw [List.getElem?_set_ne ne] at sj
        rw [List.getElem?_set_ne ne2] at sk
        exact r.sep j k t u b q ht q2 hu sj sk
  slen := r.slen
  sto := r.sto
  nod := r.nod
  keep := r.keep
  sub0 := r.sub0
  pre0 := r.pre0
/-- a new list is its maker's own -/
theorem R.newL (r : R G ent e S σ H F rho) {p : Addr} {xs : List V} {ds : List D} (hp : H p = none) (z : xs.length ≤ sizeLine) (l : RepL G rho F xs ds) :
    R G ent e S σ (upd H p (.lst xs)) F rho ∧ WRep G ent rho F (upd H p (.lst xs)) e σ (.ref p) (.own ds) := by
  refine ⟨r.lay hp, p, rfl, ⟨xs, upd_same, z, l⟩, ?_, r.fresh hp, fun m => ?_, fun i t h ht q => ?_⟩
  · cases q : F p with
    | none => rfl
    | some o => rw [r.sub p o q] at hp; cases hp
  · exact (r.rhoSome m).1 hp
  · obtain ⟨a, h1, h2, _⟩ := r.own i t h ht
    rw [h1] at q; cases q
    exact h2.isob hp
end

/-! expressions that keep the right to what they make -/
abbrev Wx := Env → Sto → Out Slot
def postW (G : Gb) (W : WX) (ent : Ent) (σ : St) (F : Hp) (rho : List Addr) (Q : VK) : Out Slot → Prop
  | .ok s e S => ∀ (v : V) (H' F' : Hp) (rho' : List Addr), R G ent e S σ H' F' rho' → Sub F F' → Pre rho rho' → WRep G ent rho' F' H' e σ v s → Q v H'
  | .exc x e S => postX G W ent σ F rho x e S
  | .stuck => False
def rdW (G : Gb) (W : WX) (ent : Ent) (m : Wx) : TE := fun σ H Q => ∃ (e : Env) (S : Sto) (F : Hp) (rho : List Addr), R G ent e S σ H F rho ∧ postW G W ent σ F rho Q (m e S)
def wVal (m : Ex) : Wx := fun e S => (m e S).bind fun d e S => .ok (.val d) e S
def eFrz (m : Wx) : Ex := fun e S => (m e S).bind fun s e S => .ok s.frz e S
section
variable {G : Gb} {W : WX} {ent : Ent} {σ : St} {H : Hp} {Q : VK}
theorem rdW_val {m : Ex} (h : rdW G W ent (wVal m) σ H Q) : rdE G W ent m σ H Q := by
  obtain ⟨e, S, F, rho, hR, hp⟩ := h
  refine ⟨e, S, F, rho, hR, ?_⟩
  unfold wVal at hp
  cases q : m e S with
  | ok d e1 S1 => rw [q] at hp; exact fun v H' F' rho' r s p k => hp v H' F' rho' r s p k
  | exc x e1 S1 => rw [q] at hp; exact hp
  | stuck => rw [q] at hp; exact hp
theorem rdE_frz {m : Wx} (h : rdE G W ent (eFrz m) σ H Q) : rdW G W ent m σ H Q := by
  obtain ⟨e, S, F, rho, hR, hp⟩ := h
  refine ⟨e, S, F, rho, hR, ?_⟩
  unfold eFrz at hp
  cases q : m e S with
  | ok s e1 S1 =>
    rw [q] at hp
    intro v H' F' rho' r sb p k
    obtain ⟨F2, s2, r2, k2⟩ := r.frz k
    exact hp v H' F2 rho' r2 (sb.trans s2) p k2
  | exc x e1 S1 => rw [q] at hp; exact hp
  | stuck => rw [q] at hp; exact hp
end
/-- a primitive that makes a new list -/
def wPrim (f : PF) (os : List Opr) : Wx := fun e S => (evR os e S).bind fun ds e S => match f ds with
  | some (.lst es) => .ok (.own es) e S
  | some d => .ok (.val d) e S
  | none => .stuck
theorem primW_of {G : Gb} {W : WX} {ent : Ent} {r : List V → Hp → VK → Prop} {f : PF} {os : List Opr} {σ : St} {H : Hp} {Q : VK} (hf : PrimFr G r f) (h : rdW G W ent (wPrim f os) σ H Q) : tOs G W ent os σ H (fun vs H' => r vs H' Q) := by
  obtain ⟨e, S, F, rho, hR, hp⟩ := h
  refine tOs_R hR ?_
  unfold wPrim at hp
  cases q : evR os e S with
  | ok ds e1 S1 =>
    rw [q] at hp
    intro vs H' F' rho' hR' s p hr
    have hp : postW G W ent σ F rho Q (match f ds with
      | some (.lst es) => .ok (.own es) e1 S1
      | some d => .ok (.val d) e1 S1
      | none => .stuck) := hp
    cases q2 : f ds with
    | none => rw [q2] at hp; exact hp.elim
    | some d =>
      rw [q2] at hp
      refine hf hR'.sub hr q2 ?_
      have gen : ∀ d', (postW G W ent σ F rho Q (.ok (.val d') e1 S1)) → ∀ v H1 F1, Grow H' F' H1 F1 → Rep G rho' F1 v d' → Q v H1 := fun d' hp v H2 F2 g r2 =>
        hp v H2 F2 rho' (hR'.grow g) (s.trans (g.sub hR'.sub)) p r2
      cases d with
      | lst es =>
        intro p0 xs H1 F1 g hp0 z l
        obtain ⟨a, b⟩ := (hR'.grow g).newL hp0 z l
        exact hp _ _ F1 rho' a (s.trans (g.sub hR'.sub)) p b
      | _ => exact gen _ hp
  | exc x e1 S1 => rw [q] at hp; exact hp
  | stuck => rw [q] at hp; exact hp
end TM
namespace TM
open PySem PySem.Spec L2
open PyProof.Rows hiding St

abbrev _root_.L2.Cx.gb (X : Cx) : Gb := ⟨X.K, X.mg⟩

def bC (d : D) : Ex := fun e S => .ok d e S
def bVar (i : Nat) : Ex := fun e S => match e[i]? with
  | some (some (.val d)) => .ok d e S
  | some (some s) => .ok s.frz (e.set i (some (.val s.frz))) S
  | _ => .stuck
section
variable {X : Cx} {W : WX} {ent : Ent}
theorem sem_const {x : Expr} {v : V} {d : D} (h : PE X x (tC v)) (r : ∀ rho F, Rep X.gb rho F v d) : PE X x (rdE X.gb W ent (bC d)) :=
  h.weak fun σ H Q ⟨e, S, F, rho, hR, hp⟩ => hp v H F rho hR (Sub.refl _) (Pre.refl _) (r rho F)
theorem sem_var {x : Expr} {i : Nat} (h : PE X x (tVar i)) : PE X x (rdE X.gb W ent (bVar i)) := h.weak fun σ H Q ⟨e, S, F, rho, hR, hp⟩ => by
  have hp : postE X.gb W ent σ F rho Q (match e[i]? with
    | some (some (.val d)) => .ok d e S
    | some (some s) => .ok s.frz (e.set i (some (.val s.frz))) S
    | _ => .stuck) := hp
  split at hp
  · rename_i d hd
    obtain ⟨v, h1, h2⟩ := hR.val i d hd
    exact ⟨v, h1, hp v H F rho hR (Sub.refl _) (Pre.refl _) h2⟩
  · rename_i s hn hs
    have hv : s.isVal = false := by
      cases s with
      | val d => exact (hn d rfl).elim
      | own _ => rfl
      | ownd _ => rfl
      | ownt _ => rfl
    obtain ⟨F', v, sb, r2, h1, h2⟩ := hR.read hs hv
    exact ⟨v, h1, hp v H F' rho r2 sb (Pre.refl _) h2⟩
  · exact hp.elim
/-- an operand's syntax -/
def OpE (X : Cx) (W : WX) (ent : Ent) (x : Expr) (o : Opr) : Prop := PE X x (tO X.gb W ent o)
inductive OpsE (X : Cx) (W : WX) (ent : Ent) : List Expr → List Opr → Prop
  | nil : OpsE X W ent [] []
  | cons {x : Expr} {o : Opr} {es : List Expr} {os : List Opr} : OpE X W ent x o → (∀ es', starEach (x :: es') X.env = (false, eval x X.env) :: starEach es' X.env) → OpsE X W ent es os → OpsE X W ent (x :: es) (o :: os)
theorem pa_ops : ∀ {es : List Expr} {os : List Opr}, OpsE X W ent es os → PA X es (tOs X.gb W ent os)
  | _, _, .nil => pa_nil
  | _, _, .cons h hs t => pa_cons h (pa_ops t) (hs _)
/-- a binary operation -/
theorem sem_bin {a b : Expr} {oa ob : Opr} {op : Operator} {pos : Pos} {r : R2} {f : PF} (ho : OpR X (binaryOp op) r) (hf : PrimOk X.gb (rL2 r) f) (ha : OpE X W ent a oa) (hb : OpE X W ent b ob) :
    PE X (.BinOp a op b pos) (rdE X.gb W ent (bPrim f [oa, ob])) := (pe_op ho ha hb).weak fun σ H Q h => prim_of hf h
theorem semW_bin {a b : Expr} {oa ob : Opr} {op : Operator} {pos : Pos} {r : R2} {f : PF} (ho : OpR X (binaryOp op) r) (hf : PrimFr X.gb (rL2 r) f) (ha : OpE X W ent a oa) (hb : OpE X W ent b ob) :
    PE X (.BinOp a op b pos) (rdW X.gb W ent (wPrim f [oa, ob])) := (pe_op ho ha hb).weak fun σ H Q h => primW_of hf h
theorem sem_cmp {a b : Expr} {oa ob : Opr} {op : CmpOp} {pos : Pos} {r : R2} {f : PF} (ho : OpR X (compareOp op) r) (hf : PrimOk X.gb (rL2 r) f) (ha : OpE X W ent a oa) (hb : OpE X W ent b ob) (hm : behindInMarks op b = false) :
    PE X (.Compare a [op] [b] pos) (rdE X.gb W ent (bPrim f [oa, ob])) := (pe_cmpR ho ha hb hm).weak fun σ H Q h => prim_of hf h
theorem sem_ix {a b : Expr} {oa ob : Opr} {pos : Pos} {r : R2} {f : PF} (ho : IxR X r) (hf : PrimOk X.gb (rL2 r) f) (ha : OpE X W ent a oa) (hb : OpE X W ent b ob) (hx : PlainIx b) :
    PE X (.Subscript a b pos) (rdE X.gb W ent (bPrim f [oa, ob])) := (pe_ix ho ha hb hx).weak fun σ H Q h => prim_of hf h
/-- one value -/
def rL1 (r : V → Hp → VK → Prop) : List V → Hp → VK → Prop := fun vs H Q => match vs with
  | [x] => r x H Q
  | _ => False
theorem sem_un {a : Expr} {oa : Opr} {op : UnaryOp} {pos : Pos} {r : V → Hp → VK → Prop} {f : PF} (ho : UnR X (unaryOp op) r) (hf : PrimOk X.gb (rL1 r) f) (ha : OpE X W ent a oa) :
    PE X (.UnaryOp op a pos) (rdE X.gb W ent (bPrim f [oa])) := (pe_un ho ha).weak fun σ H Q h => prim_of hf h
theorem sem_callB {x : Str} {p pos : Pos} {es : List Expr} {os : List Opr} {id : String} {r : List V → Hp → VK → Prop} {f : PF} {e : Expr} (hc : CallR X (.builtin id) r) (hf : PrimOk X.gb r f) (hg : Gl X x) (hm : X.mg x = none) (hv : bootBuiltins x = some (.builtin id))
    (ha : PA X (e :: es) (tOs X.gb W ent os)) (hn : x ≠ "__name__") (hdb : (x == ("__debug__" : Str)) = false) (he : starEach (e :: es) X.env = (false, eval e X.env) :: starEach es X.env) (hpl : (backTo pos (starEach es X.env)).any (·.1) = false) :
    PE X (.Call (.Name x p) (e :: es) [] pos) (rdE X.gb W ent (bPrim f os)) := (pe_callB hc hg hm hv ha hn hdb he hpl).weak fun σ H Q h => prim_of hf h
theorem sem_callTy {x : Str} {p pos : Pos} {es : List Expr} {os : List Opr} {T : String} {r : List V → Hp → VK → Prop} {f : PF} {e : Expr} (hc : CallR X (.type T) r) (hf : PrimOk X.gb r f) (hg : Gl X x) (hm : X.mg x = none) (hv : bootBuiltins x = some (.type T))
    (ha : PA X (e :: es) (tOs X.gb W ent os)) (hn : x ≠ "__name__") (hdb : (x == ("__debug__" : Str)) = false) (he : starEach (e :: es) X.env = (false, eval e X.env) :: starEach es X.env) (hpl : (backTo pos (starEach es X.env)).any (·.1) = false) :
    PE X (.Call (.Name x p) (e :: es) [] pos) (rdE X.gb W ent (bPrim f os)) := (pe_callTy hc hg hm hv ha hn hdb he hpl).weak fun σ H Q h => prim_of hf h
theorem semW_callTy {x : Str} {p pos : Pos} {es : List Expr} {os : List Opr} {T : String} {r : List V → Hp → VK → Prop} {f : PF} {e : Expr} (hc : CallR X (.type T) r) (hf : PrimFr X.gb r f) (hg : Gl X x) (hm : X.mg x = none) (hv : bootBuiltins x = some (.type T))
    (ha : PA X (e :: es) (tOs X.gb W ent os)) (hn : x ≠ "__name__") (hdb : (x == ("__debug__" : Str)) = false) (he : starEach (e :: es) X.env = (false, eval e X.env) :: starEach es X.env) (hpl : (backTo pos (starEach es X.env)).any (·.1) = false) :
    PE X (.Call (.Name x p) (e :: es) [] pos) (rdW X.gb W ent (wPrim f os)) := (pe_callTy hc hg hm hv ha hn hdb he hpl).weak fun σ H Q h => primW_of hf h
end

/-! truth -/
def D.tru : D → Option Bool
  | .non => some false
  | .bl b => some b
  | .int i => some (i != 0)
  | .str x => if x.length ≤ sizeLine then some ((x.length : Int) != 0) else none
  | .lst ds => some (!ds.isEmpty)
  | .tup ds => some (!ds.isEmpty)
  | .dct ks _ => some (!ks.isEmpty)
  | _ => none
theorem isEmpty_len {α β : Type} {l : List α} {m : List β} (h : l.length = m.length) : l.isEmpty = m.isEmpty := by
  cases l <;> cases m <;> simp at h ⊢
theorem tru_of {G : Gb} {rho : List Addr} {F H : Hp} {v : V} {d : D} {k : Bool} (s : Sub F H) (h : RepB G rho F H v d) (e : d.tru = some k) : TruV G.K v H k := by
  unfold D.tru at e
  split at e
  · cases e; cases repB_non h; rfl
  · cases e; cases repB_bl h; rfl
  · cases e; cases repB_int h; rfl
  · split at e
    · rename_i hz
      cases e; cases repB_str h; exact ⟨hz, rfl⟩
    · cases e
  · cases e
    obtain ⟨a, xs, rfl, t, _, l⟩ := repB_lst s h
    exact .inl ⟨xs, t, by rw [isEmpty_len l.length]⟩
  · cases e
    obtain ⟨a, xs, rfl, t, _, l⟩ := repB_tup s h
    exact .inr (.inl ⟨xs, t, by rw [isEmpty_len l.length]⟩)
  · cases e
    obtain ⟨a, kvs, rfl, t, e2, l⟩ := repB_dct s h
    exact .inr (.inr ⟨kvs, t, by subst e2; rw [isEmpty_len (l := kvs.map (·.1)) (m := kvs) (by simp)]⟩)
  · cases e

/-- a test -/
abbrev Tx := Env → Sto → Out Bool
def postT (G : Gb) (W : WX) (ent : Ent) (σ : St) (F : Hp) (rho : List Addr) (Q : Bool → Hp → Prop) : Out Bool → Prop
  | .ok b e S => ∀ (H' F' : Hp) (rho' : List Addr), R G ent e S σ H' F' rho' → Sub F F' → Pre rho rho' → Q b H'
  | .exc x e S => postX G W ent σ F rho x e S
  | .stuck => False
def rdT (G : Gb) (W : WX) (ent : Ent) (m : Tx) : TT := fun σ H Q => ∃ (e : Env) (S : Sto) (F : Hp) (rho : List Addr), R G ent e S σ H F rho ∧ postT G W ent σ F rho Q (m e S)
section
variable {G : Gb} {W : WX} {ent : Ent} {σ : St} {F F' : Hp} {rho rho' : List Addr}
theorem postT.mono {Q : Bool → Hp → Prop} {o : Out Bool} (s : Sub F F') (p : Pre rho rho') (h : postT G W ent σ F rho Q o) : postT G W ent σ F' rho' Q o := by
  cases o with
  | ok b e S => exact fun H2 F2 r2 hR hs hp => h H2 F2 r2 hR (s.trans hs) (p.trans hp)
  | exc x e S => exact postX.mono s p h
  | stuck => exact h
theorem postE.mono {Q : VK} {o : Out D} (s : Sub F F') (p : Pre rho rho') (h : postE G W ent σ F rho Q o) : postE G W ent σ F' rho' Q o := by
  cases o with
  | ok b e S => exact fun v H2 F2 r2 hR hs hp => h v H2 F2 r2 hR (s.trans hs) (p.trans hp)
  | exc x e S => exact postX.mono s p h
  | stuck => exact h
theorem postW.mono {Q : VK} {o : Out Slot} (s : Sub F F') (p : Pre rho rho') (h : postW G W ent σ F rho Q o) : postW G W ent σ F' rho' Q o := by
  cases o with
  | ok b e S => exact fun v H2 F2 r2 hR hs hp => h v H2 F2 r2 hR (s.trans hs) (p.trans hp)
  | exc x e S => exact postX.mono s p h
  | stuck => exact h
end
/-- the truth of an operand's value -/
def tTru (o : Opr) : Tx := fun e S => (evR [o] e S).bind fun ds e S => match ds with
  | [d] => match d.tru with
    | some b => .ok b e S
    | none => .stuck
  | _ => .stuck
def tBool (m : Ex) : Tx := fun e S => (m e S).bind fun d e S => match d with
  | .bl b => .ok b e S
  | _ => .stuck
section
variable {X : Cx} {W : WX} {ent : Ent} {a b c : Expr} {pos : Pos}
theorem ops_one {o : Opr} {σ : St} {H : Hp} {Q : V → Hp → Prop} {e : Env} {S : Sto} {F : Hp} {rho : List Addr} {G : Gb} (hR : R G ent e S σ H F rho) (h : postL G W ent σ F rho (fun vs H' => match vs with | [x] => Q x H' | _ => False) (evR [o] e S)) : tO G W ent o σ H Q := tOs_R (os := [o]) hR h
theorem semT_tru {o : Opr} (ha : OpE X W ent a o) (he : ∀ whole, isTrue a X.env whole = (do let v ← whole; standAt a.pos; holding [v] (truthy v))) : PT X a (rdT X.gb W ent (tTru o)) :=
  (pt_truth ha he).weak fun σ H Q ⟨e, S, F, rho, hR, hp⟩ => by
    refine ops_one hR ?_
    unfold tTru at hp
    cases q : evR [o] e S with
    | ok ds e1 S1 =>
      rw [q] at hp
      intro vs H' F' rho' hR' s p hr
      cases hr with
      | nil => exact hp.elim
      | cons h1 t =>
        cases t with
        | cons _ _ => exact hp.elim
        | nil =>
          rename_i d
          have hp : postT X.gb W ent σ F rho Q (match d.tru with
            | some b => .ok b e1 S1
            | none => .stuck) := hp
          split at hp
          · rename_i k hk
            exact ⟨k, tru_of hR'.sub h1 hk, hp H' F' rho' hR' s p⟩
          · exact hp.elim
    | exc x e1 S1 => rw [q] at hp; exact hp
    | stuck => rw [q] at hp; exact hp
/-- an expression that gives a bool, as a test -/
theorem semT_bool {m : Ex} (ha : PE X a (rdE X.gb W ent m)) (h : ∀ {t : TE}, PE X a t → PT X a (tTest t)) : PT X a (rdT X.gb W ent (tBool m)) :=
  (h ha).weak fun σ H Q ⟨e, S, F, rho, hR, hp⟩ => by
    refine ⟨e, S, F, rho, hR, ?_⟩
    unfold tBool at hp
    cases q : m e S with
    | ok d e1 S1 =>
      rw [q] at hp
      intro v H' F' rho' r s p k
      cases d with
      | bl b => cases k; exact ⟨b, rfl, hp H' F' rho' r s p⟩
      | _ => exact hp.elim
    | exc x e1 S1 => rw [q] at hp; exact hp
    | stuck => rw [q] at hp; exact hp
theorem semT_cmp {oa ob : Opr} {op : CmpOp} {r : R2} {f : PF} (ho : OpR X (compareOp op) r) (hf : PrimOk X.gb (rL2 r) f) (ha : OpE X W ent a oa) (hb : OpE X W ent b ob) (hm : behindInMarks op b = false) :
    PT X (.Compare a [op] [b] pos) (rdT X.gb W ent (tBool (bPrim f [oa, ob]))) := (pt_cmpR ho ha hb hm).weak fun σ H Q ⟨e, S, F, rho, hR, hp⟩ => by
  refine prim_of (W := W) (ent := ent) (os := [oa, ob]) (Q := fun x H' => ∃ k, x = .bl k ∧ Q k H') hf ⟨e, S, F, rho, hR, ?_⟩
  unfold tBool at hp
  cases q : bPrim f [oa, ob] e S with
  | ok d e1 S1 =>
    rw [q] at hp
    intro v H' F' rho' r s p k
    cases d with
    | bl b => cases k; exact ⟨b, rfl, hp H' F' rho' r s p⟩
    | _ => exact hp.elim
  | exc x e1 S1 => rw [q] at hp; exact hp
  | stuck => rw [q] at hp; exact hp
def tNotB (m : Tx) : Tx := fun e S => (m e S).bind fun b e S => .ok (!b) e S
theorem semT_not {m : Tx} (ha : PT X a (rdT X.gb W ent m)) : PT X (.UnaryOp .Not a pos) (rdT X.gb W ent (tNotB m)) := (pt_not ha).weak fun σ H Q ⟨e, S, F, rho, hR, hp⟩ => by
  refine ⟨e, S, F, rho, hR, ?_⟩
  unfold tNotB at hp
  cases q : m e S with
  | ok d e1 S1 => rw [q] at hp; exact hp
  | exc x e1 S1 => rw [q] at hp; exact hp
  | stuck => rw [q] at hp; exact hp
def tAndB (m n : Tx) : Tx := fun e S => (m e S).bind fun b e S => if b = true then n e S else .ok false e S
def tOrB (m n : Tx) : Tx := fun e S => (m e S).bind fun b e S => if b = true then .ok true e S else n e S
theorem semW_one {op : BoolOp} {m : Tx} (ha : PT X a (rdT X.gb W ent m)) : PW X (.BoolOp op [a] pos) (rdT X.gb W ent m) := by
  cases op with
  | And => exact pw_and1 ha
  | Or => exact pw_or1 ha
theorem semW_and {m n : Tx} {rest : List Expr} (ha : PT X a (rdT X.gb W ent m)) (hb : PW X (.BoolOp .And (b :: rest) pos) (rdT X.gb W ent n)) : PW X (.BoolOp .And (a :: b :: rest) pos) (rdT X.gb W ent (tAndB m n)) :=
  (pw_and ha hb).weak fun σ H Q ⟨e, S, F, rho, hR, hp⟩ => by
    refine ⟨e, S, F, rho, hR, ?_⟩
    unfold tAndB at hp
    cases q : m e S with
    | ok d e1 S1 =>
      rw [q] at hp
      intro H' F' rho' r s p
      cases d with
      | true => exact ⟨e1, S1, F', rho', r, postT.mono s p hp⟩
      | false => exact hp H' F' rho' r s p
    | exc x e1 S1 => rw [q] at hp; exact hp
    | stuck => rw [q] at hp; exact hp
theorem semW_or {m n : Tx} {rest : List Expr} (ha : PT X a (rdT X.gb W ent m)) (hb : PW X (.BoolOp .Or (b :: rest) pos) (rdT X.gb W ent n)) : PW X (.BoolOp .Or (a :: b :: rest) pos) (rdT X.gb W ent (tOrB m n)) :=
  (pw_or ha hb).weak fun σ H Q ⟨e, S, F, rho, hR, hp⟩ => by
    refine ⟨e, S, F, rho, hR, ?_⟩
    unfold tOrB at hp
    cases q : m e S with
    | ok d e1 S1 =>
      rw [q] at hp
      intro H' F' rho' r s p
      cases d with
      | false => exact ⟨e1, S1, F', rho', r, postT.mono s p hp⟩
      | true => exact hp H' F' rho' r s p
    | exc x e1 S1 => rw [q] at hp; exact hp
    | stuck => rw [q] at hp; exact hp

/-! and, or, not, if as values -/
def bAnd (m n : Ex) : Ex := fun e S => (m e S).bind fun d e S => match d.tru with
  | some true => n e S
  | some false => .ok d e S
  | none => .stuck
def bOr (m n : Ex) : Ex := fun e S => (m e S).bind fun d e S => match d.tru with
  | some true => .ok d e S
  | some false => n e S
  | none => .stuck
def bNot (m : Ex) : Ex := fun e S => (m e S).bind fun d e S => match d.tru with
  | some b => .ok (.bl (!b)) e S
  | none => .stuck
def bIf (t : Tx) (m n : Ex) : Ex := fun e S => (t e S).bind fun b e S => if b = true then m e S else n e S
def wIf (t : Tx) (m n : Wx) : Wx := fun e S => (t e S).bind fun b e S => if b = true then m e S else n e S
theorem sem_one {op : BoolOp} {m : Ex} (ha : PE X a (rdE X.gb W ent m)) : PE X (.BoolOp op [a] pos) (rdE X.gb W ent m) := pe_one ha
theorem sem_and {m n : Ex} {rest : List Expr} (ha : PE X a (rdE X.gb W ent m)) (hb : PE X (.BoolOp .And (b :: rest) pos) (rdE X.gb W ent n)) : PE X (.BoolOp .And (a :: b :: rest) pos) (rdE X.gb W ent (bAnd m n)) :=
  (pe_andT ha hb).weak fun σ H Q ⟨e, S, F, rho, hR, hp⟩ => by
    refine ⟨e, S, F, rho, hR, ?_⟩
    unfold bAnd at hp
    cases q : m e S with
    | ok d e1 S1 =>
      rw [q] at hp
      intro v H' F' rho' r s p k
      have hp : postE X.gb W ent σ F rho Q (match d.tru with
        | some true => n e1 S1
        | some false => .ok d e1 S1
        | none => .stuck) := hp
      split at hp
      · rename_i hd
        exact ⟨true, tru_of r.sub (.inl k) hd, e1, S1, F', rho', r, postE.mono s p hp⟩
      · rename_i hd
        exact ⟨false, tru_of r.sub (.inl k) hd, hp v H' F' rho' r s p k⟩
      · exact hp.elim
    | exc x e1 S1 => rw [q] at hp; exact hp
    | stuck => rw [q] at hp; exact hp
theorem sem_or {m n : Ex} {rest : List Expr} (ha : PE X a (rdE X.gb W ent m)) (hb : PE X (.BoolOp .Or (b :: rest) pos) (rdE X.gb W ent n)) : PE X (.BoolOp .Or (a :: b :: rest) pos) (rdE X.gb W ent (bOr m n)) :=
  (pe_orT ha hb).weak fun σ H Q ⟨e, S, F, rho, hR, hp⟩ => by
    refine ⟨e, S, F, rho, hR, ?_⟩
    unfold bOr at hp
    cases q : m e S with
    | ok d e1 S1 =>
      rw [q] at hp
      intro v H' F' rho' r s p k
      have hp : postE X.gb W ent σ F rho Q (match d.tru with
        | some true => .ok d e1 S1
        | some false => n e1 S1
        | none => .stuck) := hp
      split at hp
      · rename_i hd
        exact ⟨true, tru_of r.sub (.inl k) hd, hp v H' F' rho' r s p k⟩
      · rename_i hd
        exact ⟨false, tru_of r.sub (.inl k) hd, e1, S1, F', rho', r, postE.mono s p hp⟩
      · exact hp.elim
    | exc x e1 S1 => rw [q] at hp; exact hp
    | stuck => rw [q] at hp; exact hp
theorem sem_not {m : Ex} (ha : PE X a (rdE X.gb W ent m)) : PE X (.UnaryOp .Not a pos) (rdE X.gb W ent (bNot m)) :=
  (pe_notT ha).weak fun σ H Q ⟨e, S, F, rho, hR, hp⟩ => by
    refine ⟨e, S, F, rho, hR, ?_⟩
    unfold bNot at hp
    cases q : m e S with
    | ok d e1 S1 =>
      rw [q] at hp
      intro v H' F' rho' r s p k
      have hp : postE X.gb W ent σ F rho Q (match d.tru with
        | some b => .ok (.bl (!b)) e1 S1
        | none => .stuck) := hp
      split at hp
      · rename_i b hd
        exact ⟨b, tru_of r.sub (.inl k) hd, hp _ H' F' rho' r s p (.bl _)⟩
      · exact hp.elim
    | exc x e1 S1 => rw [q] at hp; exact hp
    | stuck => rw [q] at hp; exact hp
theorem sem_if {t : Tx} {m n : Ex} (hc : PT X c (rdT X.gb W ent t)) (ha : PE X a (rdE X.gb W ent m)) (hb : PE X b (rdE X.gb W ent n)) : PE X (.IfExp c a b pos) (rdE X.gb W ent (bIf t m n)) :=
  (pe_ifExp hc ha hb).weak fun σ H Q ⟨e, S, F, rho, hR, hp⟩ => by
    refine ⟨e, S, F, rho, hR, ?_⟩
    unfold bIf at hp
    cases q : t e S with
    | ok d e1 S1 =>
      rw [q] at hp
      intro H' F' rho' r s p
      cases d with
      | true => exact ⟨e1, S1, F', rho', r, postE.mono s p hp⟩
      | false => exact ⟨e1, S1, F', rho', r, postE.mono s p hp⟩
    | exc x e1 S1 => rw [q] at hp; exact hp
    | stuck => rw [q] at hp; exact hp
theorem semW_if {t : Tx} {m n : Wx} (hc : PT X c (rdT X.gb W ent t)) (ha : PE X a (rdW X.gb W ent m)) (hb : PE X b (rdW X.gb W ent n)) : PE X (.IfExp c a b pos) (rdW X.gb W ent (wIf t m n)) :=
  (pe_ifExp hc ha hb).weak fun σ H Q ⟨e, S, F, rho, hR, hp⟩ => by
    refine ⟨e, S, F, rho, hR, ?_⟩
    unfold wIf at hp
    cases q : t e S with
    | ok d e1 S1 =>
      rw [q] at hp
      intro H' F' rho' r s p
      cases d with
      | true => exact ⟨e1, S1, F', rho', r, postW.mono s p hp⟩
      | false => exact ⟨e1, S1, F', rho', r, postW.mono s p hp⟩
    | exc x e1 S1 => rw [q] at hp; exact hp
    | stuck => rw [q] at hp; exact hp
/-- a value, kept with its right -/
theorem semW_val {m : Ex} (h : PE X a (rdE X.gb W ent m)) : PE X a (rdW X.gb W ent (wVal m)) := h.weak fun σ H Q q => rdW_val q
theorem sem_frz {m : Wx} (h : PE X a (rdW X.gb W ent m)) : PE X a (rdE X.gb W ent (eFrz m)) := h.weak fun σ H Q q => rdE_frz q
end
end TM
namespace TM
open PySem PySem.Spec L2
open PyProof.Rows hiding St

/-! lists of values -/
def evX : List Ex → Env → Sto → Out (List D)
  | [], e, S => .ok [] e S
  | m :: ms, e, S => (m e S).bind fun d e S => (evX ms e S).bind fun ds e S => .ok (d :: ds) e S
def postXs (G : Gb) (W : WX) (ent : Ent) (σ : St) (F : Hp) (rho : List Addr) (Q : List V → Hp → Prop) : Out (List D) → Prop
  | .ok ds e S => ∀ (vs : List V) (H' F' : Hp) (rho' : List Addr), R G ent e S σ H' F' rho' → Sub F F' → Pre rho rho' → RepL G rho' F' vs ds → Q vs H'
  | .exc x e S => postX G W ent σ F rho x e S
  | .stuck => False
theorem tXs_of {G : Gb} {W : WX} {ent : Ent} {σ : St} : ∀ {ms : List Ex} {e : Env} {S : Sto} {H F : Hp} {rho : List Addr} {Q : List V → Hp → Prop}, R G ent e S σ H F rho → postXs G W ent σ F rho Q (evX ms e S) → tOs G W ent (ms.map .ex) σ H Q
  | [], e, S, H, F, rho, Q, hR, hp => hp [] H F rho hR (Sub.refl _) (Pre.refl _) .nil
  | m :: ms, e, S, H, F, rho, Q, hR, hp => by
    unfold evX at hp
    refine ⟨e, S, F, rho, hR, ?_⟩
    cases q : m e S with
    | ok d e1 S1 =>
      rw [q] at hp
      intro v H1 F1 rho1 hR1 s1 p1 r1
      refine tXs_of hR1 ?_
      have hp : postXs G W ent σ F rho Q ((evX ms e1 S1).bind fun ds e S => .ok (d :: ds) e S) := hp
      cases q2 : evX ms e1 S1 with
      | ok ws e2 S2 =>
        rw [q2] at hp
        intro vs H2 F2 rho2 hR2 s2 p2 hr
        exact hp (v :: vs) H2 F2 rho2 hR2 (s1.trans s2) (p1.trans p2) (.cons (r1.mono s2 p2) hr)
      | exc x e2 S2 => rw [q2] at hp; exact postX.mono s1 p1 hp
      | stuck => rw [q2] at hp; exact hp
    | exc x e1 S1 => rw [q] at hp; exact hp
    | stuck => rw [q] at hp; exact hp
theorem postXs.mono {G : Gb} {W : WX} {ent : Ent} {σ : St} {F F' : Hp} {rho rho' : List Addr} {Q : List V → Hp → Prop} {o : Out (List D)} (s : Sub F F') (p : Pre rho rho') (h : postXs G W ent σ F rho Q o) : postXs G W ent σ F' rho' Q o := by
  cases o with
  | ok b e S => exact fun v H2 F2 r2 hR hs hp => h v H2 F2 r2 hR (s.trans hs) (p.trans hp)
  | exc x e S => exact postX.mono s p h
  | stuck => exact h

/-! displays -/
def bTup (ms : List Ex) : Ex := fun e S => (evX ms e S).bind fun ds e S => if ds.length ≤ sizeLine then .ok (.tup ds) e S else .stuck
def wLst (ms : List Ex) : Wx := fun e S => (evX ms e S).bind fun ds e S => if ds.length ≤ sizeLine then .ok (.own ds) e S else .stuck
section
variable {X : Cx} {W : WX} {ent : Ent}
theorem sem_tup {es : List Expr} {ms : List Ex} {x1} {pos : Pos} (h : PA X es (tOs X.gb W ent (ms.map .ex))) : PE X (.Tuple es x1 pos) (rdE X.gb W ent (bTup ms)) :=
  (pe_tup h).weak fun σ H Q ⟨e, S, F, rho, hR, hp⟩ => by
    refine tXs_of hR ?_
    unfold bTup at hp
    cases q : evX ms e S with
    | ok ds e1 S1 =>
      rw [q] at hp
      intro vs H' F' rho' r s p l
      have hp : postE X.gb W ent σ F rho Q (if ds.length ≤ sizeLine then .ok (.tup ds) e1 S1 else .stuck) := hp
      split at hp
      · rename_i hz
        refine ⟨by rw [l.length]; exact hz, fun a ha => ?_⟩
        have g := Grow.alloc (o := .tup vs) r.sub ha
        exact hp _ _ _ rho' (r.grow g) (s.trans (g.sub r.sub)) p (.tup (.of upd_same) (fun _ => upd_same) (by rw [l.length]; exact hz) (l.mono (g.sub r.sub) (Pre.refl _)))
      · exact hp.elim
    | exc x e1 S1 => rw [q] at hp; exact hp
    | stuck => rw [q] at hp; exact hp
theorem semW_lst {es : List Expr} {ms : List Ex} {pos : Pos} (h : PA X es (tOs X.gb W ent (ms.map .ex))) : PE X (.List es pos) (rdW X.gb W ent (wLst ms)) :=
  (pe_lst h).weak fun σ H Q ⟨e, S, F, rho, hR, hp⟩ => by
    refine tXs_of hR ?_
    unfold wLst at hp
    cases q : evX ms e S with
    | ok ds e1 S1 =>
      rw [q] at hp
      intro vs H' F' rho' r s p l
      have hp : postW X.gb W ent σ F rho Q (if ds.length ≤ sizeLine then .ok (.own ds) e1 S1 else .stuck) := hp
      split at hp
      · rename_i hz
        refine ⟨by rw [l.length]; exact hz, fun a ha => ?_⟩
        obtain ⟨r2, w2⟩ := r.newL ha (by rw [l.length]; exact hz) l
        exact hp _ _ _ rho' r2 s p w2
      · exact hp.elim
    | exc x e1 S1 => rw [q] at hp; exact hp
    | stuck => rw [q] at hp; exact hp
end

/-! defs: their promise -/
structure FnG (P : Program) (w : World) (K : PySem.W.Frag) (mg : Str → Option Value) (base : Heap) (k : Nat) (f : Addr) (fd : FuncData) (ps : List Str) (sp : Sp) : Prop where
  len : ∀ vs H Q E, sp vs H Q E → vs.length = ps.length
  run : ∀ (A : Around) (outer : List PySem.Env) (s : Shared) (H : Hp) (args : Args) (us : List Value) (vs : List V) (Q : VK) (E : XK), Room k A → A.guards = some [] → Env0 P w K mg base A outer s H → BindsTo s fd args (ps.zip us) → Vals vs us → sp vs H Q E →
    codeAny (model P w) A (.call (.ref f) args) (CR (CX P w) outer P w H s Q E) s
theorem FnG.mono {P : Program} {w : World} {K : PySem.W.Frag} {mg : Str → Option Value} {base : Heap} {j k : Nat} {f : Addr} {fd : FuncData} {ps : List Str} {sp : Sp} (h : FnG P w K mg base j f fd ps sp) (hk : j ≤ k) : FnG P w K mg base k f fd ps sp :=
  ⟨h.len, fun A outer s H args us vs Q E hr => h.run A outer s H args us vs Q E (hr.mono hk)⟩

abbrev Fsem := List D → Sto → Out Slot
def FRep (G : Gb) (rho : List Addr) (Pr : Addr → HO → Prop) (F H : Hp) (v : V) : Slot → Prop
  | .val d => Rep G rho F v d
  | s => ∃ a, v = .ref a ∧ OwnAt G rho F H a s ∧ F a = none ∧ (∀ o, ¬ Pr a o) ∧ a ∉ rho
def postF (G : Gb) (H F : Hp) (rho : List Addr) (Q : VK) (E : XK) : Out Slot → Prop
  | .ok s _ S => ∀ (v : V) (H' F' : Hp) (rho' : List Addr), StoOk G S H' F' rho' → Post H F rho H' F' rho' → FRep G rho' (fun a o => H a = some o ∧ F a = none ∧ a ∉ rho) F' H' v s → Q v H'
  | .exc x _ S => ∀ (H' F' : Hp) (rho' : List Addr) (cls : Value) (d : Option Addr), StoOk G S H' F' rho' → Post H F rho H' F' rho' → XRep G rho' F' cls d x → E cls d H'
  | .stuck => False
/-- the promise: called with such data, it comes to what sem says -/
def spD (G : Gb) (n : Nat) (sem : Fsem) : Sp := fun vs H Q E => vs.length = n ∧ ∃ (ds : List D) (S : Sto) (F : Hp) (rho : List Addr), RepL G rho F vs ds ∧ StoOk G S H F rho ∧ postF G H F rho Q E (sem ds S)

def postS (G : Gb) (W : WX) (ent : Ent) (F : Hp) (rho : List Addr) (D : Ends) : Out Fl → Prop
  | .ok f e S => ∀ (σ : St) (H' F' : Hp) (rho' : List Addr), R G ent e S σ H' F' rho' → Sub F F' → Pre rho rho' → match f with
    | .next => D.nx σ H'
    | .brk => D.bk σ H'
    | .cont => D.ct σ H'
    | .ret s => ∀ v, WRep G ent rho' F' H' e σ v s → D.rt v H'
  | .exc x e S => ∀ σ, postX G W ent σ F rho x e S
  | .stuck => False
def rdS (G : Gb) (W : WX) (ent : Ent) (m : Sm) : TS := fun D σ H => ∃ (e : Env) (S : Sto) (F : Hp) (rho : List Addr), R G ent e S σ H F rho ∧ postS G W ent F rho D (m e S)
/-- a body run from its arguments -/
def env0 (N : Nat) (ds : List D) : Env := ds.map (fun d => some (.val d)) ++ List.replicate (N - ds.length) none
def fsem (N : Nat) (m : Sm) : Fsem := fun ds S => match m (env0 N ds) S with
  | .ok (.ret s) _ S => .ok s [] S
  | .ok .next _ S => .ok (.val .non) [] S
  | .ok .brk _ _ => .stuck
  | .ok .cont _ _ => .stuck
  | .exc x _ S => .exc x [] S
  | .stuck => .stuck

/-- what of a context is wanted -/
structure Gd (X : Cx) (k : Nat) : Prop where
  nd : X.N.Nodup
  calm : X.calm = true
  room : Room k X.A
  gua : X.A.guards = some []
/-- .. in a def's own block -/
structure Gf (X : Cx) (k : Nat) : Prop extends Gd X k where
  stk : X.stack = X.env :: X.outer
  fr : X.env.frame = some X.env.locals
  ex : X.ex = []
  fn : ∀ x, X.fn x = true
  po : PassesOwn (model X.prog X.w) X.A X.env X.xe

theorem guards_deeper {A : Around} {env : PySem.Env} (h : A.guards = some []) : (A.deeper env).guards = some [] := by
  simpa [Around.deeper] using h
theorem XRep.imp {G : Gb} {rho : List Addr} {F : Hp} {cls : Value} {d : Option Addr} {x : D} (h : XRep G rho F cls d x) : XRep G rho F cls d x := h

theorem fnG_of {P : Program} {w : World} {K : PySem.W.Frag} {mg : Str → Option Value} {base : Heap} {k : Nat} {f : Addr} {name qual : Str} {params : Arguments} {body : List Stmt} {scope : Scope} {dV kV doc pm cdv ct oc : Value} {an od : Option Addr}
    {osl : Array (Option Value)} {N ps : List Str} {m : Sm} (lk : K.lookup f = some ⟨oc, od, .func (PySem.W.fnOf name qual params body scope dV kV doc pm an cdv ct), osl⟩) (hcd : PySem.W.codeIn K cdv qual = true) (S : FnScope N ps scope)
    (hb : ∀ (X : Cx) (W : WX) (ent : Ent), X.prog = P → X.w = w → X.K = K → X.mg = mg → X.base = base → X.N = N → X.env.scope = scope → Gf X k → Takes X W → PSs X body (rdS X.gb W ent m)) :
    FnG P w K mg base (k + 1) f (PySem.W.fnOf name qual params body scope dV kV doc pm an cdv ct) ps (spD ⟨K, mg⟩ ps.length (fsem N.length m)) := by
  refine ⟨fun vs H Q E h => h.1, fun A outer s H args us vs Q E hr hg e0 hbd r hsp => ?_⟩
  obtain ⟨hl, ds, St, F, rho, hrep, hsto, hp⟩ := hsp
  have KX : K.In s.heap := e0.mod.kin.keeps fun b o e => (e0.bs b o e).1
  have lim : s.heap.NoLimit := e0.mod.nolimit.keeps fun b o e => (e0.bs b o e).1
  have hkind : ∀ y ∈ ps.zip us, scope.names.lookup y.1 = some .local ∨ (scope.names.lookup y.1 = some .cell ∧ ((cellsFrom (s.heap.objs.size + 1) scope.names []).lookup y.1).isSome = true) := fun ⟨n, v⟩ hy => by
    rcases S.par n (List.of_mem_zip hy).1 with q | q
    · exact .inl q
    · exact .inr ⟨q, PySem.W.cellsFrom_some _ _ _ (.inl q)⟩
  refine codeAny_call_function hr.depth (KX _ _ lk) rfl S.co S.gen rfl (PySem.W.codeRec_of KX hcd) (hbd _ _ _ _ ?_)
  refine wpAny_newFunctionEnv_cells S.kind hkind fun env he s1 x => ?_
  subst he
  refine ⟨lim.keeps x.toInCall.keep, codeAny_func ?_⟩
  have hlen : vs.length = ds.length := hrep.length
  have GF : Gf (cxOf (CX P w) P w K mg base N qual scope f cdv A outer s H E) k := ⟨⟨S.nd, rfl, hr.deeper _, guards_deeper hg⟩, rfl, rfl, rfl, fun _ => rfl, passes_of rfl⟩
  have ht := hb (cxOf (CX P w) P w K mg base N qual scope f cdv A outer s H E) (fun cls d _ H => E cls d H) ⟨fun a o => H a = some o ∧ F a = none ∧ a ∉ rho, F, rho⟩ rfl rfl rfl rfl rfl rfl rfl GF (takes_of rfl rfl rfl rfl)
  have I := inv_start (CX := CX P w) (E := E) S hr.hd e0 hl r x
  have hst : L2.start N vs = vs.map some ++ List.replicate (N.length - ds.length) none := by unfold L2.start; rw [hlen]
  have R0 : R ⟨K, mg⟩ ⟨fun a o => H a = some o ∧ F a = none ∧ a ∉ rho, F, rho⟩ (env0 N.length ds) St (L2.start N vs) H F rho := by
    rw [hst]
    exact R.start hsto.sub hrep hsto.len hsto.sto hsto.nod
  have hq : rdS ⟨K, mg⟩ (fun cls d _ H => E cls d H) ⟨fun a o => H a = some o ∧ F a = none ∧ a ∉ rho, F, rho⟩ m { nx := fun _ H' => Q .non H', rt := Q } (L2.start N vs) H := by
    refine ⟨_, _, F, rho, R0, ?_⟩
    unfold fsem at hp
    cases q : m (env0 N.length ds) St with
    | ok fl e1 S1 =>
      rw [q] at hp
      intro σ' H' F' rho' r' s' p'
      cases fl with
      | next => exact hp .non H' F' rho' r'.sok r'.post (show Rep _ _ _ _ _ from .non)
      | brk => exact hp.elim
      | cont => exact hp.elim
      | ret sl =>
        intro v hv
        refine hp v H' F' rho' r'.sok r'.post ?_
        cases sl with
        | val d => exact hv
        | own _ => obtain ⟨a, h1, h2, h3, h4, h5, _⟩ := hv; exact ⟨a, h1, h2, h3, h4, h5⟩
        | ownd _ => obtain ⟨a, h1, h2, h3, h4, h5, _⟩ := hv; exact ⟨a, h1, h2, h3, h4, h5⟩
        | ownt _ => obtain ⟨a, h1, h2, h3, h4, h5, _⟩ := hv; exact ⟨a, h1, h2, h3, h4, h5⟩
    | exc x e1 S1 =>
      rw [q] at hp
      intro σ' H' F' rho' cls d r' s' p' hx
      exact hp H' F' rho' cls d r'.sok r'.post hx
    | stuck => rw [q] at hp; exact hp.elim
  refine wpAny_mono (ht.run [] s1 (L2.start N vs) H _ I hq) (fun fl s' hs => ?_) fun e s' hs => hs
  have fin : ∀ {σ' : L2.St} {H' : Hp} {v : V} {u : Value}, Inv (cxOf (CX P w) P w K mg base N qual scope f cdv A outer s H E) [] σ' H' s' → RelV v u → Q v H' → CE outer P w H s Q u s' :=
    fun {σ' H' v u} J rv q => ⟨v, H', J.os, J.bare, J.base, J.hok, rv, q⟩
  cases fl with
  | ret u =>
    obtain ⟨v, σ', H', J, rv, q⟩ := hs
    exact fin J rv q
  | next =>
    obtain ⟨σ', H', J, q⟩ := hs
    exact fin (v := V.non) (u := Value.none) J rfl q
  | brk => obtain ⟨_, _, _, q⟩ := hs; exact q.elim
  | cont => obtain ⟨_, _, _, q⟩ := hs; exact q.elim
end TM
namespace TM
open PySem PySem.Spec L2
open PyProof.Rows hiding St

/-! how a call's values come to the parameters -/
inductive Src where
  | pos (i : Nat) | kw (j : Nat) | df (i : Nat)
def fill {α : Type} (z : α) (us ws ds : List α) (arr : List Src) : List α := arr.map fun s => match s with
  | .pos i => us.getD i z
  | .kw j => ws.getD j z
  | .df i => ds.getD i z
theorem fill_length {α : Type} {z : α} {us ws ds : List α} {arr : List Src} : (fill z us ws ds arr).length = arr.length := by unfold fill; rw [List.length_map]
theorem Vals.at {vs : List V} {us : List Value} (r : Vals vs us) (i : Nat) : RelV (vs.getD i .non) (us.getD i .none) := by
  rw [List.getD_eq_getElem?_getD, List.getD_eq_getElem?_getD]
  cases h : vs[i]? with
  | none => rw [L2.Vals.none_of r h]; rfl
  | some v => obtain ⟨u, hu, q⟩ := L2.Vals.get r h; rw [hu]; exact q
theorem RepL.at {G : Gb} {rho : List Addr} {F : Hp} {vs : List V} {ds : List D} (r : RepL G rho F vs ds) (i : Nat) : Rep G rho F (vs.getD i .non) (ds.getD i .non) := by
  rw [List.getD_eq_getElem?_getD, List.getD_eq_getElem?_getD]
  cases h : ds[i]? with
  | none =>
    have : vs[i]? = none := by
      rw [List.getElem?_eq_none_iff] at h ⊢
      rw [r.length]; exact h
    rw [this]; exact .non
  | some v => obtain ⟨u, hu, q⟩ := r.get h; rw [hu]; exact q
theorem fill_vals {vs zs dvs : List V} {us ws dus : List Value} (a : Vals vs us) (b : Vals zs ws) (c : Vals dvs dus) : ∀ arr : List Src, Vals (fill .non vs zs dvs arr) (fill .none us ws dus arr)
  | [] => .nil
  | .pos i :: r => .cons (Vals.at a i) (fill_vals a b c r)
  | .kw i :: r => .cons (Vals.at b i) (fill_vals a b c r)
  | .df i :: r => .cons (Vals.at c i) (fill_vals a b c r)
theorem fill_rep {G : Gb} {rho : List Addr} {F : Hp} {vs zs dvs : List V} {us ws dus : List D} (a : RepL G rho F vs us) (b : RepL G rho F zs ws) (c : RepL G rho F dvs dus) : ∀ arr : List Src, RepL G rho F (fill .non vs zs dvs arr) (fill .non us ws dus arr)
  | [] => .nil
  | .pos i :: r => .cons (RepL.at a i) (fill_rep a b c r)
  | .kw i :: r => .cons (RepL.at b i) (fill_rep a b c r)
  | .df i :: r => .cons (RepL.at c i) (fill_rep a b c r)

/-- a def, as it is called: its parameters, what it comes to, its defaults, the shapes of its calls (how many by place, the names, how these come to the parameters) -/
structure FnI where
  ps : List Str
  sem : Fsem
  dfl : List D
  shapes : List (Nat × List Str × List Src)
def BindsOk (K : PySem.W.Frag) (fd : FuncData) (ps : List Str) (dus : List Value) (sh : Nat × List Str × List Src) : Prop :=
  sh.2.2.length = ps.length ∧ ∀ (s : Shared) (us ws : List Value), K.In s.heap → us.length = sh.1 → ws.length = sh.2.1.length → BindsTo s fd ⟨us, sh.2.1.zip ws⟩ (ps.zip (fill .none us ws dus sh.2.2))
structure FnAt (P : Program) (w : World) (K : PySem.W.Frag) (mg : Str → Option Value) (base : Heap) (k : Nat) (x : Str) (i : FnI) : Prop where
  ex : ∃ (f : Addr) (fd : FuncData) (dvs : List V) (dus : List Value), mg x = some (.ref f) ∧ PySem.W.keepIn K (.ref f) = true ∧ FnG P w K mg base k f fd i.ps (spD ⟨K, mg⟩ i.ps.length i.sem) ∧ Vals dvs dus ∧ (∀ rho F, RepL ⟨K, mg⟩ rho F dvs i.dfl) ∧
    ∀ sh ∈ i.shapes, BindsOk K fd i.ps dus sh

def wCall (sem : Fsem) (dfl : List D) (arr : List Src) (ms kms : List Ex) : Wx := fun e S => (evX ms e S).bind fun ds e S => (evX kms e S).bind fun zs e S => match sem (fill .non ds zs dfl arr) S with
  | .ok s _ S => .ok s e S
  | .exc x _ S => .exc x e S
  | .stuck => .stuck

section
variable {X : Cx} {W : WX} {ent : Ent} {k : Nat}
/-- the call itself, its values reckoned -/
theorem run_call {pins : List (Addr × Obj)} {σ : L2.St} {H F : Hp} {s : Shared} {Q : VK} {us ws : List Value} {vs zs : List V} {ds ys : List D} {f : Addr} {fd : FuncData} {i : FnI} {dvs : List V} {dus : List Value} {ks : List Str} {arr : List Src} {e : Env} {S : Sto} {rho : List Addr} {F0 : Hp} {rho0 : List Addr}
    (gd : Gd X k) (tk : Takes X W) (Fn : FnG X.prog X.w X.K X.mg X.base k f fd i.ps (spD X.gb i.ps.length i.sem)) (hdv : Vals dvs dus) (hdd : ∀ rho F, RepL X.gb rho F dvs i.dfl) (hb : BindsOk X.K fd i.ps dus (us.length, ks, arr)) (hks : ws.length = ks.length)
    (I : Inv X pins σ H s) (r1 : Vals vs us) (r2 : Vals zs ws) (hR : R X.gb ent e S σ H F rho) (l1 : RepL X.gb rho F vs ds) (l2 : RepL X.gb rho F zs ys) (sb : Sub F0 F) (pr : Pre rho0 rho)
    (h : postW X.gb W ent σ F0 rho0 Q (match i.sem (fill .non ds ys i.dfl arr) S with
      | .ok s _ S => .ok s e S
      | .exc x _ S => .exc x e S
      | .stuck => .stuck)) : wpAny (model X.prog X.w) X.A (call (.ref f) us (ks.zip ws)) (EP X pins σ Q) X.xe s := by
  obtain ⟨ha, hbd⟩ := hb
  have hrel := fill_vals r1 r2 hdv arr
  refine wpAny_call (codeAny_mono (Fn.run X.A X.stack s H ⟨us, ks.zip ws⟩ (fill .none us ws dus arr) (fill .non vs zs dvs arr) Q (fun cls d H' => W cls d σ H') gd.room gd.gua I.env0 (hbd s us ws I.kIn rfl hks) hrel ?_) fun r s' hq => ?_)
  · refine ⟨fill_length.trans ha, fill .non ds ys i.dfl arr, S, F, rho, fill_rep l1 l2 (hdd rho F) arr, hR.sok, ?_⟩
    cases q : i.sem (fill .non ds ys i.dfl arr) S with
    | ok sl e1 S1 =>
      rw [q] at h
      intro v H' F' rho' k1 k2 k3
      refine h v H' F' rho' (hR.call k1 k2) (sb.trans k2.sub) (pr.trans k2.pre) ?_
      have key : (∃ a, v = .ref a ∧ OwnAt X.gb rho' F' H' a sl ∧ F' a = none ∧ (∀ o, ¬ (H a = some o ∧ F a = none ∧ a ∉ rho)) ∧ a ∉ rho') → ∃ a, v = .ref a ∧ OwnAt X.gb rho' F' H' a sl ∧ F' a = none ∧ (∀ o, ¬ ent.Pr a o) ∧ a ∉ rho' ∧ ∀ (i : Nat) (t : Slot), e[i]? = some (some t) → t.isVal = false → σ[i]? ≠ some (some (.ref a)) := by
        rintro ⟨a, h1, h2, h3, h4, h5⟩
        refine ⟨a, h1, h2, h3, fun o z => h4 o (hR.keep a o z), h5, fun j t hj ht z => ?_⟩
        obtain ⟨b, e1, e2, e3, _, e5⟩ := hR.own j t hj ht
        rw [e1] at z; cases z
        obtain ⟨o, ho⟩ := Option.ne_none_iff_exists'.mp e2.isob
        exact h4 o ⟨ho, e3, e5⟩
      cases sl with
      | val d => exact k3
      | own _ => exact key k3
      | ownd _ => exact key k3
      | ownt _ => exact key k3
    | exc x e1 S1 =>
      rw [q] at h
      intro H' F' rho' cls d k1 k2 k3
      exact h H' F' rho' cls d (hR.call k1 k2) (sb.trans k2.sub) (pr.trans k2.pre) k3
    | stuck => rw [q] at h; exact h
  · cases r with
    | error x => exact tk x s' (XE.of_call I (fun _ _ _ z => z) hq)
    | ok fl =>
      cases fl with
      | ret u => exact I.after hq
      | next => exact hq.elim
      | brk => exact hq.elim
      | cont => exact hq.elim

def plainA : Expr → Bool
  | .Starred _ _ => false
  | _ => true
theorem star_plain {x : Expr} (h : plainA x = true) (es : List Expr) (env : PySem.Env) : starEach (x :: es) env = (false, eval x env) :: starEach es env := by
  cases x <;> first | rfl | cases h
theorem back_plain {pos : Pos} {env : PySem.Env} : ∀ {es : List Expr}, es.all plainA = true → (backTo pos (starEach es env)).any (·.1) = false
  | [], _ => rfl
  | x :: es, h => by
    rw [List.all_cons, Bool.and_eq_true] at h
    rw [star_plain h.1]
    have := back_plain (pos := pos) (env := env) h.2
    simpa [backTo] using this
def kwName (k : Keyword) : Bool := k.arg.isSome
theorem kw_all {pos : Pos} {env : PySem.Env} : ∀ {kws : List Keyword}, kws.all kwName = true → (backToKw pos (keywordEach kws env)).all (·.1.isSome) = true ∧ (backToKw pos (keywordEach kws env)).any (·.1.isNone) = false
  | [], _ => ⟨rfl, rfl⟩
  | ⟨n, v, p⟩ :: r, h => by
    rw [List.all_cons, Bool.and_eq_true] at h
    have := kw_all (pos := pos) (env := env) h.2
    have h1 : n.isSome = true := h.1
    cases n with
    | none => cases h1
    | some n => simpa [backToKw, keywordEach] using this
theorem kw_names {pos : Pos} {env : PySem.Env} : ∀ {kws : List Keyword}, (backToKw pos (keywordEach kws env)).filterMap (·.1) = kws.filterMap (·.arg)
  | [] => rfl
  | ⟨n, v, p⟩ :: r => by
    have := kw_names (pos := pos) (env := env) (kws := r)
    cases n <;> simpa [backToKw, keywordEach] using this
theorem kw_len : ∀ {kws : List Keyword}, kws.all kwName = true → (kws.filterMap (·.arg)).length = kws.length
  | [], _ => rfl
  | ⟨n, v, p⟩ :: r, h => by
    rw [List.all_cons, Bool.and_eq_true] at h
    have h1 : n.isSome = true := h.1
    cases n with
    | none => cases h1
    | some n => simp [kw_len h.2]
/-- keywords' values -/
inductive KwE (X : Cx) (W : WX) (ent : Ent) : List Keyword → List Ex → Prop
  | nil : KwE X W ent [] []
  | cons {n : Option Str} {x : Expr} {p : Pos} {m : Ex} {kws : List Keyword} {ms : List Ex} : PE X x (rdE X.gb W ent m) → KwE X W ent kws ms → KwE X W ent (⟨n, x, p⟩ :: kws) (m :: ms)
theorem pk_kws : ∀ {kws : List Keyword} {ms : List Ex}, KwE X W ent kws ms → PK X kws (tOs X.gb W ent (ms.map .ex))
  | _, _, .nil => pk_nil
  | _, _, .cons h t => pk_cons h (pk_kws t)
theorem KwE.length : ∀ {kws : List Keyword} {ms : List Ex}, KwE X W ent kws ms → kws.length = ms.length
  | _, _, .nil => rfl
  | _, _, .cons _ t => congrArg (· + 1) (KwE.length t)
theorem evX_length : ∀ {ms : List Ex} {e e' : Env} {S S' : Sto} {ds : List D}, evX ms e S = .ok ds e' S' → ds.length = ms.length
  | [], e, e', S, S', ds, h => by cases h; rfl
  | m :: ms, e, e', S, S', ds, h => by
    unfold evX at h
    cases q : m e S with
    | ok d e1 S1 =>
      rw [q] at h
      have h : (evX ms e1 S1).bind (fun ds e S => .ok (d :: ds) e S) = .ok ds e' S' := h
      cases q2 : evX ms e1 S1 with
      | ok ws e2 S2 =>
        rw [q2] at h
        cases h
        rw [List.length_cons, List.length_cons, evX_length q2]
      | exc x e2 S2 => rw [q2] at h; cases h
      | stuck => rw [q2] at h; cases h
    | exc x e1 S1 => rw [q] at h; cases h
    | stuck => rw [q] at h; cases h

/-- f(..) of an own def -/
theorem semW_call {x : Str} {i : FnI} {p pos : Pos} {es : List Expr} {kws : List Keyword} {ms kms : List Ex} {arr : List Src} (gd : Gd X k) (tk : Takes X W) (fa : FnAt X.prog X.w X.K X.mg X.base k x i) (hg : Gl X x) (hdb : (x == ("__debug__" : Str)) = false)
    (hsh : (es.length, kws.filterMap (·.arg), arr) ∈ i.shapes) (hpl : es.all plainA = true) (hkw : kws.all kwName = true) (ha : OpsE X W ent es (ms.map .ex)) (hlen : es.length = ms.length) (hk : KwE X W ent kws kms) :
    PE X (.Call (.Name x p) es kws pos) (rdW X.gb W ent (wCall i.sem i.dfl arr ms kms)) := by
  obtain ⟨f, fd, dvs, dus, hm, hkeep, Fn, hdv, hdd, hbs⟩ := fa.ex
  have hb := hbs _ hsh
  refine ⟨fun pins s σ H Q I hq => ?_⟩
  obtain ⟨e, S, F, rho, hR, hp⟩ := hq
  refine wpAny_Call_Name_kw (ld_glob I hg hm ?_ hdb)
  obtain ⟨k1, k2⟩ := kw_all (pos := pos) (env := X.env) hkw
  -- what stands behind the positional values
  have step : ∀ (us : List Value) (vs : List V) (s1 : Shared) (H1 F1 : Hp) (rho1 : List Addr) (ds : List D) (e1 : Env) (S1 : Sto), us.length = es.length → Vals vs us → Inv X pins σ H1 s1 → R X.gb ent e1 S1 σ H1 F1 rho1 → Sub F F1 → Pre rho rho1 → RepL X.gb rho1 F1 vs ds → evX ms e S = .ok ds e1 S1 →
      wpAny (model X.prog X.w) X.A (evalAll ((backToKw pos (keywordEach kws X.env)).map (·.2))) (fun ks s₂ => X.K.In s₂.heap ∧ wpAny (model X.prog X.w) X.A (call (.ref f) us (((backToKw pos (keywordEach kws X.env)).filterMap (·.1)).zip ks)) (EP X pins σ Q) X.xe s₂) X.xe s1 := by
    intro us vs s1 H1 F1 rho1 ds e1 S1 hul r1 I1 hR1 sb1 pr1 l1 ev
    have hp : postW X.gb W ent σ F rho Q ((evX kms e1 S1).bind fun zs e S => match i.sem (fill .non ds zs i.dfl arr) S with
      | .ok s _ S => .ok s e S
      | .exc x _ S => .exc x e S
      | .stuck => .stuck) := by
      unfold wCall at hp
      rw [ev] at hp
      exact hp
    refine thn ((pk_kws hk).run pos pins s1 σ H1 (fun zs H2 => ∃ (F2 : Hp) (rho2 : List Addr) (ys : List D) (e2 : Env) (S2 : Sto), evX kms e1 S1 = .ok ys e2 S2 ∧ R X.gb ent e2 S2 σ H2 F2 rho2 ∧ Sub F1 F2 ∧ Pre rho1 rho2 ∧ RepL X.gb rho2 F2 zs ys) I1 (tXs_of hR1 ?_)) fun ws s2 hws => ?_
    · cases q : evX kms e1 S1 with
      | ok ys e2 S2 => exact fun zs H2 F2 rho2 hR2 sb2 pr2 l2 => ⟨F2, rho2, ys, e2, S2, rfl, hR2, sb2, pr2, l2⟩
      | exc x e2 S2 => rw [q] at hp; exact postX.mono sb1 pr1 hp
      | stuck => rw [q] at hp; exact hp
    · obtain ⟨zs, H2, I2, r2, F2, rho2, ys, e2, S2, q, hR2, sb2, pr2, l2⟩ := hws
      rw [q] at hp
      refine ⟨I2.kIn, ?_⟩
      rw [kw_names]
      have hwl : ws.length = (kws.filterMap (·.arg)).length := by
        rw [kw_len hkw, ← r2.length, l2.length, evX_length q, hk.length]
      exact run_call gd tk Fn hdv hdd (by rw [hul]; exact hb) hwl I2 r1 r2 hR2 (l1.mono sb2 pr2) l2 (sb1.trans sb2) (pr1.trans pr2) hp
  cases es with
  | nil =>
    refine PySem.W.callWith_KW0 (h₀ := X.base) (first := []) I.ok.mod.kin hkeep k1 ?_ (by rw [k2]; rfl)
    cases ms with
    | cons _ _ => cases hlen
    | nil => exact step [] [] s H F rho [] e S rfl .nil I hR (Sub.refl _) (Pre.refl _) .nil rfl
  | cons x0 es0 =>
    rw [List.all_cons, Bool.and_eq_true] at hpl
    refine PySem.W.callWith_KW (h₀ := X.base) (first := []) I.ok.mod.kin hkeep k1 (thn ((pa_ops ha).run pos pins s σ H (fun vs H1 => ∃ (F1 : Hp) (rho1 : List Addr) (ds : List D) (e1 : Env) (S1 : Sto), evX ms e S = .ok ds e1 S1 ∧ R X.gb ent e1 S1 σ H1 F1 rho1 ∧ Sub F F1 ∧ Pre rho rho1 ∧ RepL X.gb rho1 F1 vs ds) I (tXs_of hR ?_)) fun us s1 hus => ?_) (by rw [k2, back_plain (by rw [List.all_cons, hpl.1, hpl.2]; rfl)]; rfl) (star_plain hpl.1 _ _)
    · unfold wCall at hp
      cases q : evX ms e S with
      | ok ds e1 S1 => exact fun vs H1 F1 rho1 hR1 sb1 pr1 l1 => ⟨F1, rho1, ds, e1, S1, rfl, hR1, sb1, pr1, l1⟩
      | exc x e2 S2 => rw [q] at hp; exact hp
      | stuck => rw [q] at hp; exact hp
    · obtain ⟨vs, H1, I1, r1, F1, rho1, ds, e1, S1, q, hR1, sb1, pr1, l1⟩ := hus
      exact step us vs s1 H1 F1 rho1 ds e1 S1 (by rw [← r1.length, l1.length, evX_length q, hlen]) r1 I1 hR1 sb1 pr1 l1 q
end
end TM
namespace TM
open PySem PySem.Spec L2
open PyProof.Rows hiding St

/-! statements -/
section
variable {G : Gb} {W : WX} {ent : Ent} {F F' : Hp} {rho rho' : List Addr}
theorem postS.mono {D : Ends} {o : Out Fl} (s : Sub F F') (p : Pre rho rho') (h : postS G W ent F rho D o) : postS G W ent F' rho' D o := by
  cases o with
  | ok f e S => exact fun σ H2 F2 r2 hR hs hp => h σ H2 F2 r2 hR (s.trans hs) (p.trans hp)
  | exc x e S => exact fun σ => postX.mono s p (h σ)
  | stuck => exact h
end
def sOk (f : Fl) : Sm := fun e S => .ok f e S
def sRet (m : Wx) : Sm := fun e S => (m e S).bind fun s e S => .ok (.ret s) e S
def sSet (i : Nat) (m : Wx) : Sm := fun e S => (m e S).bind fun s e S => .ok .next (e.set i (some s)) S
def sIf (t : Tx) (m n : Sm) : Sm := fun e S => (t e S).bind fun b e S => if b = true then m e S else n e S
def sSeq (m n : Sm) : Sm := fun e S => (m e S).bind fun f e S => match f with
  | .next => n e S
  | f => .ok f e S
def sDrop (m : Ex) : Sm := fun e S => (m e S).bind fun _ e S => .ok .next e S
section
variable {X : Cx} {W : WX} {ent : Ent} {pos : Pos}
theorem semS_pass : PS X (.Pass pos) (rdS X.gb W ent (sOk .next)) := ps_pass.weak fun D σ H ⟨e, S, F, rho, hR, hp⟩ => hp σ H F rho hR (Sub.refl _) (Pre.refl _)
theorem semS_break : PS X (.Break pos) (rdS X.gb W ent (sOk .brk)) := ps_break.weak fun D σ H ⟨e, S, F, rho, hR, hp⟩ => hp σ H F rho hR (Sub.refl _) (Pre.refl _)
theorem semS_cont : PS X (.Continue pos) (rdS X.gb W ent (sOk .cont)) := ps_continue.weak fun D σ H ⟨e, S, F, rho, hR, hp⟩ => hp σ H F rho hR (Sub.refl _) (Pre.refl _)
theorem semS_doc {x j pos'} : PS X (.Expr (.Constant (.str x) j pos') pos) (rdS X.gb W ent (sOk .next)) := ps_doc.weak fun D σ H ⟨e, S, F, rho, hR, hp⟩ => hp σ H F rho hR (Sub.refl _) (Pre.refl _)
theorem semS_retN : PS X (.Return none pos) (rdS X.gb W ent (sOk (.ret (.val .non)))) := ps_retN.weak fun D σ H ⟨e, S, F, rho, hR, hp⟩ => hp σ H F rho hR (Sub.refl _) (Pre.refl _) .non (show Rep _ _ _ _ _ from .non)
theorem semS_ret {x : Expr} {m : Wx} (h : PE X x (rdW X.gb W ent m)) : PS X (.Return (some x) pos) (rdS X.gb W ent (sRet m)) := (ps_ret h).weak fun D σ H ⟨e, S, F, rho, hR, hp⟩ => by
  refine ⟨e, S, F, rho, hR, ?_⟩
  unfold sRet at hp
  cases q : m e S with
  | ok s e1 S1 => rw [q] at hp; exact fun v H' F' rho' r sb p k => hp σ H' F' rho' r sb p v k
  | exc x e1 S1 => rw [q] at hp; exact hp σ
  | stuck => rw [q] at hp; exact hp
theorem semS_set {x : Expr} {m : Wx} {i : Nat} {y : Str} {pos' : Pos} (h : PE X x (rdW X.gb W ent m)) (hN : X.N.Nodup) (hi : X.N[i]? = some y) (hx : Loc X.env.scope y) (hf : X.fn y = true ∨ X.env.scope.names.lookup y = some .local)
    (hs : swapsWith x (some (.Name y pos')) pos.line X.env = pure false) : PS X (.Assign [.Name y pos'] x pos) (rdS X.gb W ent (sSet i m)) := (ps_set hN hi hx h hs hf).weak fun D σ H ⟨e, S, F, rho, hR, hp⟩ => by
  refine ⟨e, S, F, rho, hR, ?_⟩
  unfold sSet at hp
  cases q : m e S with
  | ok s e1 S1 => rw [q] at hp; exact fun v H' F' rho' r sb p k => hp _ H' F' rho' (r.setW k i) sb p
  | exc x e1 S1 => rw [q] at hp; exact hp σ
  | stuck => rw [q] at hp; exact hp
theorem semS_if {c : Expr} {a b : List Stmt} {t : Tx} {m n : Sm} (hc : PT X c (rdT X.gb W ent t)) (ha : PSs X a (rdS X.gb W ent m)) (hb : PSs X b (rdS X.gb W ent n)) : PS X (.If c a b pos) (rdS X.gb W ent (sIf t m n)) :=
  (ps_if hc ha hb).weak fun D σ H ⟨e, S, F, rho, hR, hp⟩ => by
    refine ⟨e, S, F, rho, hR, ?_⟩
    unfold sIf at hp
    cases q : t e S with
    | ok d e1 S1 =>
      rw [q] at hp
      intro H' F' rho' r s p
      cases d with
      | true => exact ⟨e1, S1, F', rho', r, postS.mono s p hp⟩
      | false => exact ⟨e1, S1, F', rho', r, postS.mono s p hp⟩
    | exc x e1 S1 => rw [q] at hp; exact hp σ
    | stuck => rw [q] at hp; exact hp
theorem semB_nil : PSs X [] (rdS X.gb W ent (sOk .next)) := pss_nil.weak fun D σ H ⟨e, S, F, rho, hR, hp⟩ => hp σ H F rho hR (Sub.refl _) (Pre.refl _)
theorem semB_cons {st : Stmt} {rest : List Stmt} {m n : Sm} (h1 : PS X st (rdS X.gb W ent m)) (h2 : PSs X rest (rdS X.gb W ent n)) : PSs X (st :: rest) (rdS X.gb W ent (sSeq m n)) :=
  (pss_cons h1 h2).weak fun D σ H ⟨e, S, F, rho, hR, hp⟩ => by
    refine ⟨e, S, F, rho, hR, ?_⟩
    unfold sSeq at hp
    cases q : m e S with
    | ok f e1 S1 =>
      rw [q] at hp
      intro σ' H' F' rho' r s p
      cases f with
      | next => exact ⟨e1, S1, F', rho', r, postS.mono s p hp⟩
      | brk => exact hp σ' H' F' rho' r s p
      | cont => exact hp σ' H' F' rho' r s p
      | ret sl => exact hp σ' H' F' rho' r s p
    | exc x e1 S1 => rw [q] at hp; exact hp
    | stuck => rw [q] at hp; exact hp
theorem semS_drop {x : Expr} {m : Ex} (h : PE X x (rdE X.gb W ent m)) (hs : swapsWith x none pos.line X.env = pure false) : PS X (.Expr x pos) (rdS X.gb W ent (sDrop m)) := (ps_expr h hs).weak fun D σ H ⟨e, S, F, rho, hR, hp⟩ => by
  refine ⟨e, S, F, rho, hR, ?_⟩
  unfold sDrop at hp
  cases q : m e S with
  | ok s e1 S1 => rw [q] at hp; exact fun v H' F' rho' r sb p k => hp _ H' F' rho' r sb p
  | exc x e1 S1 => rw [q] at hp; exact hp σ
  | stuck => rw [q] at hp; exact hp
end

/-! several targets at once -/
def setAll {α : Type} : List Nat → List α → List (Option α) → List (Option α)
  | i :: is, v :: vs, l => setAll is vs (l.set i (some v))
  | _, _, l => l
def evW : List Wx → Env → Sto → Out (List Slot)
  | [], e, S => .ok [] e S
  | m :: ms, e, S => (m e S).bind fun s e S => (evW ms e S).bind fun ss e S => .ok (s :: ss) e S
def rdWx (G : Gb) (W : WX) (m : Wx) : TE := fun σ H Q => ∃ ent, rdW G W ent m σ H Q
def tWs (G : Gb) (W : WX) : List Wx → TA
  | [] => tNil
  | m :: ms => tCons (rdWx G W m) (tWs G W ms)
/-- values with rights, each its own -/
inductive WRL (G : Gb) (ent : Ent) (rho : List Addr) (F H : Hp) (e : Env) (σ : L2.St) : List V → List Slot → Prop
  | nil : WRL G ent rho F H e σ [] []
  | cons {v : V} {s : Slot} {vs : List V} {ss : List Slot} : WRep G ent rho F H e σ v s → WRL G ent rho F H e σ vs ss →
      (∀ (a : Addr) (j : Nat) (t : Slot), s.isVal = false → v = .ref a → ss[j]? = some t → t.isVal = false → vs[j]? ≠ some (.ref a)) → WRL G ent rho F H e σ (v :: vs) (s :: ss)
def postWs (G : Gb) (W : WX) (ent : Ent) (σ : L2.St) (F : Hp) (rho : List Addr) (Q : List V → Hp → Prop) : Out (List Slot) → Prop
  | .ok ss e S => ∀ (vs : List V) (H' F' : Hp) (rho' : List Addr), R G ent e S σ H' F' rho' → Sub F F' → Pre rho rho' → WRL G ent rho' F' H' e σ vs ss → Q vs H'
  | .exc x e S => postX G W ent σ F rho x e S
  | .stuck => False
theorem WRL.length {G : Gb} {ent : Ent} {rho : List Addr} {F H : Hp} {e : Env} {σ : L2.St} : ∀ {vs : List V} {ss : List Slot}, WRL G ent rho F H e σ vs ss → vs.length = ss.length
  | _, _, .nil => rfl
  | _, _, .cons _ t _ => congrArg (· + 1) (WRL.length t)
theorem WRL.get {G : Gb} {ent : Ent} {rho : List Addr} {F H : Hp} {e : Env} {σ : L2.St} : ∀ {vs : List V} {ss : List Slot} {j : Nat} {s : Slot}, WRL G ent rho F H e σ vs ss → ss[j]? = some s → ∃ v, vs[j]? = some v ∧ WRep G ent rho F H e σ v s
  | _, _, _, _, .nil, h => by simp at h
  | _, _, 0, _, .cons r _ _, h => by simp at h; subst h; exact ⟨_, rfl, r⟩
  | _, _, j + 1, s, .cons _ t _, h => by
    obtain ⟨v, h1, h2⟩ := WRL.get (j := j) (s := s) t (by simpa using h)
    exact ⟨v, by simpa using h1, h2⟩
theorem postX.less {G : Gb} {W : WX} {ent ent' : Ent} {σ : L2.St} {F : Hp} {rho : List Addr} {x : D} {e : Env} {S : Sto} (h1 : ∀ a o, ent.Pr a o → ent'.Pr a o) (h2 : ent.F = ent'.F) (h3 : ent.rho = ent'.rho) (h : postX G W ent σ F rho x e S) : postX G W ent' σ F rho x e S :=
  fun H' F' rho' c d r s p x => h H' F' rho' c d (r.less h1 h2 h3) s p x
theorem WRep.mono {G : Gb} {ent : Ent} {rho : List Addr} {F H : Hp} {e : Env} {σ : L2.St} {ent' : Ent} (h1 : ∀ a o, ent'.Pr a o → ent.Pr a o) {v : V} {s : Slot} (h : WRep G ent rho F H e σ v s) : WRep G ent' rho F H e σ v s := by
  cases s with
  | val d => exact h
  | own _ => obtain ⟨a, q1, q2, q3, q4, q5⟩ := h; exact ⟨a, q1, q2, q3, fun o z => q4 o (h1 a o z), q5⟩
  | ownd _ => obtain ⟨a, q1, q2, q3, q4, q5⟩ := h; exact ⟨a, q1, q2, q3, fun o z => q4 o (h1 a o z), q5⟩
  | ownt _ => obtain ⟨a, q1, q2, q3, q4, q5⟩ := h; exact ⟨a, q1, q2, q3, fun o z => q4 o (h1 a o z), q5⟩
theorem WRL.less {G : Gb} {ent : Ent} {rho : List Addr} {F H : Hp} {e : Env} {σ : L2.St} {ent' : Ent} (h1 : ∀ a o, ent'.Pr a o → ent.Pr a o) : ∀ {vs : List V} {ss : List Slot}, WRL G ent rho F H e σ vs ss → WRL G ent' rho F H e σ vs ss
  | _, _, .nil => .nil
  | _, _, .cons r t d => .cons (r.mono h1) (WRL.less h1 t) d
theorem tWs_of {G : Gb} {W : WX} {σ : L2.St} : ∀ {ms : List Wx} {ent : Ent} {e : Env} {S : Sto} {H F : Hp} {rho : List Addr} {Q : List V → Hp → Prop}, R G ent e S σ H F rho → postWs G W ent σ F rho Q (evW ms e S) → tWs G W ms σ H Q
  | [], ent, e, S, H, F, rho, Q, hR, hp => hp [] H F rho hR (Sub.refl _) (Pre.refl _) .nil
  | m :: ms, ent, e, S, H, F, rho, Q, hR, hp => by
    unfold evW at hp
    refine ⟨ent, e, S, F, rho, hR, ?_⟩
    cases q : m e S with
    | ok s e1 S1 =>
      rw [q] at hp
      intro v H1 F1 rho1 hR1 s1 p1 r1
      have hp : postWs G W ent σ F rho Q ((evW ms e1 S1).bind fun ss e S => .ok (s :: ss) e S) := hp
      -- the objects that are to stand besides
      let ent2 : Ent := ⟨fun b o => ent.Pr b o ∨ (s.isVal = false ∧ v = .ref b ∧ H1 b = some o), ent.F, ent.rho⟩
      have hR2 : R G ent2 e1 S1 σ H1 F1 rho1 := by
        refine ⟨hR1.len, hR1.sub, hR1.val, fun i t h ht => ?_, hR1.sep, hR1.slen, hR1.sto, hR1.nod, fun a o h => ?_, hR1.sub0, hR1.pre0⟩
        · obtain ⟨a, q1, q2, q3, q4, q5⟩ := hR1.own i t h ht
          refine ⟨a, q1, q2, q3, fun o z => ?_, q5⟩
          rcases z with z | ⟨z1, z2, z3⟩
          · exact q4 o z
          · obtain ⟨b, e2, _, _, _, _, nb⟩ := r1.own_of z1
            rw [e2] at z2; cases z2
            exact nb i t h ht q1
        · rcases h with h | ⟨z1, z2, z3⟩
          · exact hR1.keep a o h
          · obtain ⟨b, e2, _, f2, _, n2, _⟩ := r1.own_of z1
            rw [e2] at z2; cases z2
            exact ⟨z3, f2, n2⟩
      refine tWs_of hR2 ?_
      cases q2 : evW ms e1 S1 with
      | ok ss e2 S2 =>
        rw [q2] at hp
        intro vs H2 F2 rho2 hR3 s2 p2 hr
        refine hp (v :: vs) H2 F2 rho2 (hR3.less (fun a o z => Or.inl z) rfl rfl) (s1.trans s2) (p1.trans p2) (.cons ?_ (hr.less fun a o z => Or.inl z) ?_)
        · by_cases hs : s.isVal = true
          · cases s with
            | val d => exact Rep.mono s2 p2 r1
            | own _ => cases hs
            | ownd _ => cases hs
            | ownt _ => cases hs
          · have hs : s.isVal = false := by simpa using hs
            obtain ⟨a, e2, o2, f2, g2, n2, nb⟩ := r1.own_of hs
            obtain ⟨o, ho⟩ := Option.ne_none_iff_exists'.mp o2.isob
            obtain ⟨k1, k2, k3⟩ := hR3.keep a o (.inr ⟨hs, e2, ho⟩)
            refine .of_own hs ⟨a, e2, o2.mono s2 p2 (k1.trans ho.symm), k2, g2, k3, fun i t h ht z => ?_⟩
            obtain ⟨b, q1, _, _, q4, _⟩ := hR3.own i t h ht
            rw [q1] at z; cases z
            exact q4 o (.inr ⟨hs, e2, ho⟩)
        · intro a j t hs ev ht hv hj
          obtain ⟨b, e2, o2, _⟩ := r1.own_of hs
          rw [e2] at ev; cases ev
          obtain ⟨o, ho⟩ := Option.ne_none_iff_exists'.mp o2.isob
          obtain ⟨w, hw, rw'⟩ := hr.get ht
          rw [hj] at hw; cases hw
          obtain ⟨c, e3, _, _, g3, _⟩ := rw'.own_of hv
          cases e3
          exact g3 o (.inr ⟨hs, e2, ho⟩)
      | exc x e2 S2 =>
        rw [q2] at hp
        have hp : postX G W ent σ F rho x e2 S2 := hp
        exact (hp.less (ent' := ent2) (fun a o z => Or.inl z) rfl rfl).mono s1 p1
      | stuck => rw [q2] at hp; exact hp
    | exc x e1 S1 => rw [q] at hp; exact hp
    | stuck => rw [q] at hp; exact hp
theorem R.setAll {G : Gb} {ent : Ent} {S : Sto} {H F : Hp} {rho : List Addr} : ∀ {is : List Nat} {vs : List V} {ss : List Slot} {e : Env} {σ : L2.St}, is.length = ss.length → R G ent e S σ H F rho → WRL G ent rho F H e σ vs ss → R G ent (setAll is ss e) S (setAll is vs σ) H F rho
  | [], vs, ss, e, σ, hl, r, h => by
    cases h with
    | nil => exact r
    | cons _ _ _ => simp at hl
  | i :: is, vs0, ss0, e, σ, hl, r, h0 => by
   cases h0 with
   | nil => simp at hl
   | @cons v s vs ss h t d =>
    have step : ∀ {vs' : List V} {ss' : List Slot}, (∀ (a : Addr) (j : Nat) (t : Slot), s.isVal = false → v = .ref a → ss'[j]? = some t → t.isVal = false → vs'[j]? ≠ some (.ref a)) → WRL G ent rho F H e σ vs' ss' → WRL G ent rho F H (e.set i (some s)) (σ.set i (some v)) vs' ss' := by
      intro vs' ss' d' t'
      induction t' with
      | nil => exact .nil
      | @cons v2 s2 vs2 ss2 r2 t2 d2 ih =>
        refine .cons ?_ (ih fun a j t hs ev hj ht => ?_) d2
        · by_cases hs : s2.isVal = true
          · cases s2 with
            | val _ => exact r2
            | own _ => cases hs
            | ownd _ => cases hs
            | ownt _ => cases hs
          · have hs : s2.isVal = false := by simpa using hs
            obtain ⟨a, e2, o2, f2, g2, n2, nb⟩ := r2.own_of hs
            refine .of_own hs ⟨a, e2, o2, f2, g2, n2, fun k t hk ht z => ?_⟩
            rcases get_set hk with ⟨e1, q⟩ | ⟨ne, q⟩
            · cases q
              subst e1
              rcases get_set z with ⟨_, q⟩ | ⟨ne, _⟩
              · have q' : v = .ref a := by cases q; rfl
                exact d' a 0 s2 ht q' rfl hs (by rw [e2]; rfl)
              · exact ne rfl
            · rw [List.getElem?_set_ne ne] at z
              exact nb k t q ht z
        · have := d' a (j + 1) t hs ev (by simpa using hj) ht
          simpa using this
    exact R.setAll (is := is) (vs := vs) (ss := ss) (e := e.set i (some s)) (σ := σ.set i (some v)) (by simpa using hl) (r.setW h i) (step d t)
def sPar (is : List Nat) (ms : List Wx) : Sm := fun e S => (evW ms e S).bind fun ss e S => .ok .next (setAll is ss e) S
theorem evW_length : ∀ {ms : List Wx} {e e' : Env} {S S' : Sto} {ds : List Slot}, evW ms e S = .ok ds e' S' → ds.length = ms.length
  | [], e, e', S, S', ds, h => by cases h; rfl
  | m :: ms, e, e', S, S', ds, h => by
    unfold evW at h
    cases q : m e S with
    | ok d e1 S1 =>
      rw [q] at h
      have h : (evW ms e1 S1).bind (fun ds e S => .ok (d :: ds) e S) = .ok ds e' S' := h
      cases q2 : evW ms e1 S1 with
      | ok ws e2 S2 => rw [q2] at h; cases h; rw [List.length_cons, List.length_cons, evW_length q2]
      | exc x e2 S2 => rw [q2] at h; cases h
      | stuck => rw [q2] at h; cases h
    | exc x e1 S1 => rw [q] at h; cases h
    | stuck => rw [q] at h; cases h
theorem postW.imp {G : Gb} {W : WX} {ent : Ent} {σ : L2.St} {F : Hp} {rho : List Addr} {Q Q' : VK} {o : Out Slot} (h : postW G W ent σ F rho Q o) (k : ∀ v H, Q v H → Q' v H) : postW G W ent σ F rho Q' o := by
  cases o with
  | ok s e S => exact fun v H' F' rho' r sb p w => k _ _ (h v H' F' rho' r sb p w)
  | exc x e S => exact h
  | stuck => exact h
theorem tWs_imp {G : Gb} {W : WX} : ∀ {ms : List Wx} {σ : L2.St} {H : Hp} {Q Q' : List V → Hp → Prop}, tWs G W ms σ H Q → (∀ vs H, Q vs H → Q' vs H) → tWs G W ms σ H Q'
  | [], σ, H, Q, Q', h, k => k _ _ h
  | m :: ms, σ, H, Q, Q', h, k => by
    obtain ⟨ent, e, S, F, rho, hR, hp⟩ := h
    exact ⟨ent, e, S, F, rho, hR, hp.imp fun v H1 q => tWs_imp q fun vs H2 z => k _ _ z⟩
/-- from the values' reading to the slots -/
theorem par_core {G : Gb} {W : WX} {ent : Ent} {is : List Nat} {ms : List Wx} {D : Ends} {σ : L2.St} {H : Hp} (hl : is.length = ms.length) (h : rdS G W ent (sPar is ms) D σ H) :
    tWs G W ms σ H (fun vs H' => vs.length = ms.length ∧ ∀ H2, (H2 = H' ∨ ∃ p o, H' p = none ∧ H2 = upd H' p o) → D.nx (setAll is vs σ) H2) := by
  obtain ⟨e, S, F, rho, hR, hp⟩ := h
  refine tWs_of hR ?_
  unfold sPar at hp
  cases q : evW ms e S with
  | ok ss e1 S1 =>
    rw [q] at hp
    intro vs H' F' rho' r s p l
    refine ⟨by rw [l.length, evW_length q], fun H2 h2 => ?_⟩
    have r1 := R.setAll (is := is) (by rw [hl, evW_length q]) r l
    rcases h2 with rfl | ⟨a, o, ha, rfl⟩
    · exact hp _ _ F' rho' r1 s p
    · exact hp _ _ F' rho' (r1.lay ha) s p
  | exc x e1 S1 => rw [q] at hp; exact hp σ
  | stuck => rw [q] at hp; exact hp
/-- the targets' names -/
def gNames : List Nat → TGs
  | [] => gNil
  | i :: is => gCons (gName i) (gNames is)
theorem gNames_of : ∀ {is : List Nat} {vs : List V} {σ : L2.St} {H : Hp} {Q : L2.St → Hp → Prop}, vs.length = is.length → Q (setAll is vs σ) H → gNames is vs σ H Q
  | [], [], _, _, _, _, h => ⟨rfl, h⟩
  | i :: is, v :: vs, σ, H, Q, hl, h => ⟨v, vs, rfl, gNames_of (by simpa using hl) h⟩
  | [], _ :: _, _, _, _, hl, _ => by simp at hl
  | _ :: _, [], _, _, _, hl, _ => by simp at hl
section
variable {X : Cx} {W : WX} {ent : Ent} {pos : Pos}
theorem wx_of {x : Expr} {m : Wx} (h : ∀ ent, PE X x (rdW X.gb W ent m)) : PE X x (rdWx X.gb W m) := ⟨fun pins s σ H Q I ⟨ent, hq⟩ => (h ent).run pins s σ H Q I hq⟩
/-- the values of a list of expressions, with their rights -/
inductive WxE (X : Cx) (W : WX) : List Expr → List Wx → Prop
  | nil : WxE X W [] []
  | cons {x : Expr} {m : Wx} {es : List Expr} {ms : List Wx} : (∀ ent, PE X x (rdW X.gb W ent m)) → plainA x = true → WxE X W es ms → WxE X W (x :: es) (m :: ms)
theorem pa_wx : ∀ {es : List Expr} {ms : List Wx}, WxE X W es ms → PA X es (tWs X.gb W ms)
  | _, _, .nil => pa_nil
  | _, _, .cons h hp t => pa_cons (wx_of h) (pa_wx t) (star_plain hp _ _)
theorem semS_par2 {i j : Nat} {x y : Str} {a b : Expr} {m n : Wx} {px py pt : Pos} {kt k2 pt2} (hc : X.calm = true) (hN : X.N.Nodup) (hi : X.N[i]? = some x) (hj : X.N[j]? = some y) (hij : i ≠ j)
    (hx : X.env.scope.names.lookup x = some .local) (hy : X.env.scope.names.lookup y = some .local) (ha : WxE X W [a, b] [m, n])
    (hw : swappedStores [.Tuple [.Name x px, .Name y py] kt pt] (.Tuple [a, b] k2 pt2) X.env = pure (some [x, y])) :
    PS X (.Assign [.Tuple [.Name x px, .Name y py] kt pt] (.Tuple [a, b] k2 pt2) pos) (rdS X.gb W ent (sPar [i, j] [m, n])) :=
  (ps_par hc hN hi hj hij hx hy (pa_wx ha) hw rfl).weak fun D σ H h => by
    have := par_core (is := [i, j]) (ms := [m, n]) rfl h
    refine tWs_imp this fun vs H' hq => ?_
    obtain ⟨hl, k⟩ := hq
    match vs, hl with
    | [v, w], _ => exact ⟨v, w, rfl, k H' (.inl rfl)⟩
theorem semS_par3 {i j l : Nat} {x y z : Str} {a b c : Expr} {m n o : Wx} {px py pz pt : Pos} {kt k2 pt2} (hc : X.calm = true) (hN : X.N.Nodup) (hi : X.N[i]? = some x) (hj : X.N[j]? = some y) (hl : X.N[l]? = some z) (hij : i ≠ j) (hil : i ≠ l) (hjl : j ≠ l)
    (hx : X.env.scope.names.lookup x = some .local) (hy : X.env.scope.names.lookup y = some .local) (hz : X.env.scope.names.lookup z = some .local) (ha : WxE X W [a, b, c] [m, n, o])
    (hw : swappedStores [.Tuple [.Name x px, .Name y py, .Name z pz] kt pt] (.Tuple [a, b, c] k2 pt2) X.env = pure (some [x, y, z])) :
    PS X (.Assign [.Tuple [.Name x px, .Name y py, .Name z pz] kt pt] (.Tuple [a, b, c] k2 pt2) pos) (rdS X.gb W ent (sPar [i, j, l] [m, n, o])) :=
  (ps_par3 hc hN hi hj hl hij hil hjl hx hy hz (pa_wx ha) hw rfl).weak fun D σ H h => by
    have := par_core (is := [i, j, l]) (ms := [m, n, o]) rfl h
    refine tWs_imp this fun vs H' hq => ?_
    obtain ⟨hl, k⟩ := hq
    match vs, hl with
    | [u, v, w], _ => exact ⟨u, v, w, rfl, k H' (.inl rfl)⟩
/-- more of them, or such as are no plain locals: by way of a tuple -/
theorem semS_parT {ts es : List Expr} {is : List Nat} {ms : List Wx} {pt pt2 : Pos} {kt k2} (hc : X.calm = true) (hl : is.length = ms.length) (hz : ms.length ≤ sizeLine) (hg : PGs X ts (gNames is)) (ha : WxE X W es ms) (hls : ts.length = is.length)
    (hn : (assignEach ts X.env).length = is.length) (hst : (assignEach ts X.env).findIdx? (·.1) = none)
    (hw : swappedStores [.Tuple ts kt pt] (.Tuple es k2 pt2) X.env = pure none) (hm : (assignEach [.Tuple ts kt pt] X.env).map (·.2) = [assign (.Tuple ts kt pt) X.env]) :
    PS X (.Assign [.Tuple ts kt pt] (.Tuple es k2 pt2) pos) (rdS X.gb W ent (sPar is ms)) :=
  (ps_asg (pe_tup (pa_wx ha)) (pg_tup hc hg hn hst) rfl hw hm).weak fun D σ H h => by
    have := par_core (is := is) (ms := ms) hl h
    refine tWs_imp this fun vs H' hq => ?_
    obtain ⟨hv, k⟩ := hq
    refine ⟨by rw [hv]; exact hz, fun p hp => ⟨p, vs, rfl, .of upd_same, hv.trans hl.symm, gNames_of (hv.trans hl.symm) (k _ (.inr ⟨p, _, hp, rfl⟩))⟩⟩
end
end TM
namespace TM
open PySem PySem.Spec L2
open PyProof.Rows hiding St

/-! targets -/
inductive Tg where
  | nm (i : Nat) | tp (ts : List Tg)
mutual
def Tg.asg : Tg → D → Env → Option Env
  | .nm i, d, e => some (e.set i (some (.val d)))
  | .tp ts, d, e => match d with
    | .tup ds => Tg.asgs ts ds e
    | _ => none
def Tg.asgs : List Tg → List D → Env → Option Env
  | [], ds, e => match ds with
    | [] => some e
    | _ => none
  | t :: ts, ds, e => match ds with
    | d :: ds => match t.asg d e with
      | some e1 => Tg.asgs ts ds e1
      | none => none
    | [] => none
end
mutual
def Tg.slots : Tg → List Nat
  | .nm i => [i]
  | .tp ts => Tg.slotss ts
def Tg.slotss : List Tg → List Nat
  | [] => []
  | t :: ts => t.slots ++ Tg.slotss ts
end
theorem asgs_len : ∀ {ts : List Tg} {ds : List D} {e e' : Env}, Tg.asgs ts ds e = some e' → ds.length = ts.length
  | [], ds, e, e', h => by
    unfold Tg.asgs at h
    split at h
    · rfl
    · cases h
  | t :: ts, ds, e, e', h => by
    unfold Tg.asgs at h
    split at h
    · split at h
      · rw [List.length_cons, List.length_cons, asgs_len h]
      · cases h
    · cases h
def TgR (G : Gb) (g : TG) (t : Tg) : Prop := ∀ {ent : Ent} {e e' : Env} {S : Sto} {σ : L2.St} {H F : Hp} {rho : List Addr} {v : V} {d : D} {Q : L2.St → Hp → Prop}, R G ent e S σ H F rho → Rep G rho F v d → t.asg d e = some e' →
  (∀ σ', R G ent e' S σ' H F rho → σ'.length = σ.length → (∀ j, j ∉ t.slots → σ'[j]? = σ[j]?) → Q σ' H) → g v σ H Q
def TgsR (G : Gb) (g : TGs) (t : List Tg) : Prop := ∀ {ent : Ent} {e e' : Env} {S : Sto} {σ : L2.St} {H F : Hp} {rho : List Addr} {v : List V} {d : List D} {Q : L2.St → Hp → Prop}, R G ent e S σ H F rho → RepL G rho F v d → Tg.asgs t d e = some e' →
  (∀ σ', R G ent e' S σ' H F rho → σ'.length = σ.length → (∀ j, j ∉ Tg.slotss t → σ'[j]? = σ[j]?) → Q σ' H) → g v σ H Q
theorem tg_nm {G : Gb} {i : Nat} : TgR G (gName i) (.nm i) := by
  intro ent e e' S σ H F rho v d Q r h ha q
  unfold Tg.asg at ha
  cases ha
  refine q _ (r.setW (s := .val d) h i) (by rw [List.length_set]) fun j hj => ?_
  have : i ≠ j := fun z => hj (by rw [z]; simp [Tg.slots])
  rw [List.getElem?_set_ne this]
theorem tgs_nil {G : Gb} : TgsR G gNil [] := by
  intro ent e e' S σ H F rho v d Q r h ha q
  unfold Tg.asgs at ha
  split at ha
  · cases ha
    cases h
    exact ⟨rfl, q σ r rfl fun _ _ => rfl⟩
  · cases ha
theorem tgs_cons {G : Gb} {g : TG} {gs : TGs} {t : Tg} {ts : List Tg} (h1 : TgR G g t) (h2 : TgsR G gs ts) : TgsR G (gCons g gs) (t :: ts) := by
  intro ent e e' S σ H F rho v d Q r h ha q
  unfold Tg.asgs at ha
  split at ha
  · split at ha
    · rename_i e1 he1
      cases h with
      | cons ha1 ha2 =>
        refine ⟨_, _, rfl, h1 r ha1 he1 fun σ1 r1 l1 k1 => h2 r1 ha2 ha fun σ2 r2 l2 k2 => q σ2 r2 (l2.trans l1) fun j hj => ?_⟩
        have hj : j ∉ t.slots ∧ j ∉ Tg.slotss ts := by simpa [Tg.slotss] using hj
        exact (k2 j hj.2).trans (k1 j hj.1)
    · cases ha
  · cases ha
theorem tg_tp {G : Gb} {gs : TGs} {ts : List Tg} (h : TgsR G gs ts) : TgR G (gTup G.K ts.length gs) (.tp ts) := by
  intro ent e e' S σ H F rho v d Q r hr ha q
  unfold Tg.asg at ha
  split at ha
  · cases hr with
    | tup t1 t2 z l => exact ⟨_, _, rfl, sqT_mono r.sub t1, by rw [l.length]; exact asgs_len ha, h r l ha q⟩
  · cases ha

/-! what a loop goes over -/
abbrev Itx := Env → Sto → Out (List D)
def WalkD (G : Gb) (rho : List Addr) (F : Hp) (J : It) (ds : List D) : Prop :=
  ds.length ≤ sizeLine ∧ ∃ (Gs : Hp → Prop) (Y : Nat → Hp → V → Hp → Prop), Walk J ds.length Gs Y ∧ (∀ H, Sub F H → Gs H) ∧
    ∀ (i : Nat) (H : Hp) (x : V) (H' : Hp) (d : D) (rho' : List Addr) (F' : Hp), ds[i]? = some d → Pre rho rho' → Sub F F' → Sub F' H → Y i H x H' → ∃ F'', Grow H F' H' F'' ∧ Rep G rho' F'' x d
def postI (G : Gb) (W : WX) (ent : Ent) (σ : L2.St) (F : Hp) (rho : List Addr) (Rc : It → Hp → Prop) : Out (List D) → Prop
  | .ok ds e S => ∀ (J : It) (H' F' : Hp) (rho' : List Addr), R G ent e S σ H' F' rho' → Sub F F' → Pre rho rho' → WalkD G rho' F' J ds → Rc J H'
  | .exc x e S => postX G W ent σ F rho x e S
  | .stuck => False
def rdI (G : Gb) (W : WX) (ent : Ent) (m : Itx) : TI := fun σ H Rc => ∃ (e : Env) (S : Sto) (F : Hp) (rho : List Addr), R G ent e S σ H F rho ∧ postI G W ent σ F rho Rc (m e S)
theorem _root_.L2.PI.weak {X : Cx} {g e : Expr} {t t' : TI} (h : PI X g e t) (w : ∀ σ H Q, t' σ H Q → t σ H Q) : PI X g e t' := ⟨fun pins s σ H Q I q => h.run pins s σ H Q I (w σ H Q q)⟩
/-- the things of a value -/
def itemsD : D → Option (List D)
  | .lst ds => some ds
  | .tup ds => some ds
  | .str x => if x.length ≤ sizeLine then some (x.cps.toList.map fun c => .str ⟨#[c]⟩) else none
  | _ => none
def iVal (m : Ex) : Itx := fun e S => (m e S).bind fun d e S => match itemsD d with
  | some ds => .ok ds e S
  | none => .stuck
theorem walkD_list {G : Gb} {rho : List Addr} {F : Hp} {a : Addr} {xs : List V} {ds : List D} (h : SqL G.K F a xs) (z : xs.length ≤ sizeLine) (l : RepL G rho F xs ds) : WalkD G rho F (Itl G.K a) ds := by
  have w := walk_list (K := G.K) (a := a) (xs := xs)
  rw [l.length] at w
  refine ⟨by rw [← l.length]; exact z, _, _, w, fun H s => sqL_mono s h, fun i H x H' d rho' F' hd p s s2 y => ?_⟩
  obtain ⟨rfl, hx⟩ := y
  obtain ⟨v, hv, r⟩ := l.get hd
  rw [hx] at hv; cases hv
  exact ⟨F', Grow.refl s2, r.mono s p⟩
theorem walkD_tup {G : Gb} {rho : List Addr} {F : Hp} {a : Addr} {xs : List V} {ds : List D} (h : SqT G.K F a xs) (z : xs.length ≤ sizeLine) (l : RepL G rho F xs ds) : WalkD G rho F (Itt G.K a) ds := by
  have w := walk_tup (K := G.K) (a := a) (xs := xs)
  rw [l.length] at w
  refine ⟨by rw [← l.length]; exact z, _, _, w, fun H s => sqT_mono s h, fun i H x H' d rho' F' hd p s s2 y => ?_⟩
  obtain ⟨rfl, hx⟩ := y
  obtain ⟨v, hv, r⟩ := l.get hd
  rw [hx] at hv; cases hv
  exact ⟨F', Grow.refl s2, r.mono s p⟩
theorem walkD_str {G : Gb} {rho : List Addr} {F : Hp} {x : Str} (z : x.length ≤ sizeLine) : WalkD G rho F (Its x) (x.cps.toList.map fun c => .str ⟨#[c]⟩) := by
  have w := walk_str (z := x)
  have hl : (x.cps.toList.map fun c => D.str ⟨#[c]⟩).length = x.cps.size := by simp
  refine ⟨by rw [hl]; exact z, _, _, by rw [hl]; exact w, fun H s => trivial, fun i H v H' d rho' F' hd p s s2 y => ?_⟩
  obtain ⟨rfl, c, hc, rfl⟩ := y
  have : d = .str ⟨#[c]⟩ := by
    rw [List.getElem?_map] at hd
    simp only [Array.getElem?_toList, hc, Option.map_some, Option.some.injEq] at hd
    exact hd.symm
  subst this
  exact ⟨F', Grow.refl s2, .str _⟩
section
variable {X : Cx} {W : WX} {ent : Ent} {pos : Pos}
theorem semI_val {tg x : Expr} {m : Ex} (h : PE X x (rdE X.gb W ent m)) : PI X tg x (rdI X.gb W ent (iVal m)) :=
  ((pi_list h).orr ((pi_tup h).orr (pi_str h))).weak fun σ H Rc ⟨e, S, F, rho, hR, hp⟩ => by
    unfold iVal at hp
    cases q : m e S with
    | ok d e1 S1 =>
      rw [q] at hp
      have hp : postI X.gb W ent σ F rho Rc (match itemsD d with
        | some ds => .ok ds e1 S1
        | none => .stuck) := hp
      split at hp
      · rename_i ds hds
        unfold itemsD at hds
        split at hds
        · cases hds
          refine .inl ⟨e, S, F, rho, hR, ?_⟩
          rw [q]
          intro v H' F' rho' r s p k
          cases k with
          | lst t z l => exact ⟨_, rfl, ⟨_, sqL_mono r.sub t⟩, hp _ H' F' rho' r s p (walkD_list t z l)⟩
        · cases hds
          refine .inr (.inl ⟨e, S, F, rho, hR, ?_⟩)
          rw [q]
          intro v H' F' rho' r s p k
          cases k with
          | tup t _ z l => exact ⟨_, rfl, ⟨_, sqT_mono r.sub t⟩, hp _ H' F' rho' r s p (walkD_tup t z l)⟩
        · split at hds
          · rename_i hz
            cases hds
            refine .inr (.inr ⟨e, S, F, rho, hR, ?_⟩)
            rw [q]
            intro v H' F' rho' r s p k
            cases k
            exact ⟨_, rfl, hp _ H' F' rho' r s p (walkD_str hz)⟩
          · cases hds
        · cases hds
      · exact hp.elim
    | exc x e1 S1 => rw [q] at hp; exact .inl ⟨e, S, F, rho, hR, by rw [q]; exact hp⟩
    | stuck => rw [q] at hp; exact hp.elim
/-- range -/
def rangeD (lo : Int) (n : Nat) (c : Int) : List D := (List.range n).map fun i => .int (lo + (i : Nat) * c)
theorem walkD_range {G : Gb} {rho : List Addr} {F : Hp} {lo : Int} {n : Nat} (z : n ≤ sizeLine) : WalkD G rho F (Itr lo n) (rangeD lo n 1) := by
  have w := walk_range (lo := lo) (n := n)
  have hl : (rangeD lo n 1).length = n := by simp [rangeD]
  refine ⟨by rw [hl]; exact z, _, _, by rw [hl]; exact w, fun H s => trivial, fun i H v H' d rho' F' hd p s s2 y => ?_⟩
  obtain ⟨rfl, rfl⟩ := y
  have hi : i < n := by rw [← hl]; exact (List.getElem?_eq_some_iff.mp hd).1
  have : d = .int (lo + i) := by
    unfold rangeD at hd
    rw [List.getElem?_map, List.getElem?_range hi] at hd
    simp only [Option.map_some, Option.some.injEq, Int.mul_one] at hd
    exact hd.symm
  subst this
  exact ⟨F', Grow.refl s2, .int _⟩
theorem walkD_rangeC {G : Gb} {rho : List Addr} {F : Hp} {lo c : Int} {n : Nat} (z : n ≤ sizeLine) : WalkD G rho F (Itc lo c n) (rangeD lo n c) := by
  have w := walk_rangeC (lo := lo) (c := c) (n := n)
  have hl : (rangeD lo n c).length = n := by simp [rangeD]
  refine ⟨by rw [hl]; exact z, _, _, by rw [hl]; exact w, fun H s => trivial, fun i H v H' d rho' F' hd p s s2 y => ?_⟩
  obtain ⟨rfl, rfl⟩ := y
  have hi : i < n := by rw [← hl]; exact (List.getElem?_eq_some_iff.mp hd).1
  have : d = .int (lo + (i : Nat) * c) := by
    unfold rangeD at hd
    rw [List.getElem?_map, List.getElem?_range hi] at hd
    simp only [Option.map_some, Option.some.injEq] at hd
    exact hd.symm
  subst this
  exact ⟨F', Grow.refl s2, .int _⟩
def range1 : List D → Option (List D)
  | [.int j] => if smI j = true ∧ j.toNat ≤ 16777216 then some (rangeD 0 j.toNat 1) else none
  | _ => none
def range2 : List D → Option (List D)
  | [.int i, .int j] => if smI i = true ∧ smI j = true ∧ (j - i).toNat ≤ 16777216 then some (rangeD i (j - i).toNat 1) else none
  | _ => none
/-- by minus ones -/
def range3 : List D → Option (List D)
  | [.int i, .int j, .int c] => if c = -1 ∧ smI i = true ∧ smI j = true ∧ (i - j).toNat ≤ 16777216 then some (rangeD i (i - j).toNat (-1)) else none
  | _ => none
def iRange (f : List D → Option (List D)) (os : List Opr) : Itx := fun e S => (evR os e S).bind fun ds e S => match f ds with
  | some es => .ok es e S
  | none => .stuck
/-- by the operands' values -/
theorem range_core {G : Gb} {f : List D → Option (List D)} {os : List Opr} {σ : L2.St} {H : Hp} {Rc : It → Hp → Prop} {k : List V → Hp → Prop} (hf : ∀ {rho F H vs ds es}, RepBL G rho F H vs ds → f ds = some es → (∀ J, WalkD G rho F J es → Rc J H) → k vs H)
    (h : rdI G W ent (iRange f os) σ H Rc) : tOs G W ent os σ H k := by
  obtain ⟨e, S, F, rho, hR, hp⟩ := h
  refine tOs_R hR ?_
  unfold iRange at hp
  cases q : evR os e S with
  | ok ds e1 S1 =>
    rw [q] at hp
    intro vs H' F' rho' r s p kk
    have hp : postI G W ent σ F rho Rc (match f ds with
      | some es => .ok es e1 S1
      | none => .stuck) := hp
    split at hp
    · rename_i es hes
      exact hf kk hes fun J w => hp J H' F' rho' r s p w
    · exact hp.elim
  | exc x e1 S1 => rw [q] at hp; exact hp
  | stuck => rw [q] at hp; exact hp.elim
theorem semI_range1 {tg a : Expr} {os : List Opr} {p : Pos} (hg : Gl X "range") (hm : X.mg "range" = none) (ha : OpsE X W ent [a] os) (hpl : plainA a = true) : PI X tg (.Call (.Name "range" p) [a] [] pos) (rdI X.gb W ent (iRange range1 os)) :=
  (pi_range1 hg hm (pa_ops ha) (star_plain hpl _ _)).weak fun σ H Rc h => range_core (fun {rho F H vs ds es} l hf q => by
    unfold range1 at hf
    split at hf
    · split at hf
      · rename_i hc
        cases hf
        obtain ⟨v, rfl, h1⟩ := repBL1 l
        cases repB_int h1
        have h9 := smI_of hc.1
        refine ⟨_, rfl, by omega, by omega, q _ (walkD_range ?_)⟩
        have : (sizeLine : Nat) = 16777216 := sizeLine_eq
        omega
      · cases hf
    · cases hf) h
theorem semI_range2 {tg a b : Expr} {os : List Opr} {p : Pos} (hg : Gl X "range") (hm : X.mg "range" = none) (ha : OpsE X W ent [a, b] os) (hp1 : plainA a = true) (hp2 : plainA b = true) : PI X tg (.Call (.Name "range" p) [a, b] [] pos) (rdI X.gb W ent (iRange range2 os)) :=
  (pi_range2 hg hm (pa_ops ha) (by rw [star_plain hp1, star_plain hp2]; rfl) (star_plain hp2 _ _)).weak fun σ H Rc h => range_core (fun {rho F H vs ds es} l hf q => by
    unfold range2 at hf
    split at hf
    · split at hf
      · rename_i hc
        cases hf
        obtain ⟨v, w, rfl, h1, h2⟩ := repBL2 l
        cases repB_int h1; cases repB_int h2
        have h8 := smI_of hc.1
        have h9 := smI_of hc.2.1
        refine ⟨_, _, rfl, ⟨by omega, by omega, by omega, by omega⟩, q _ (walkD_range ?_)⟩
        have : (sizeLine : Nat) = 16777216 := sizeLine_eq
        omega
      · cases hf
    · cases hf) h
theorem semI_range3 {tg a b c : Expr} {os : List Opr} {p : Pos} (hg : Gl X "range") (hm : X.mg "range" = none) (ha : OpsE X W ent [a, b, c] os) (hp1 : plainA a = true) (hp2 : plainA b = true) (hp3 : plainA c = true) : PI X tg (.Call (.Name "range" p) [a, b, c] [] pos) (rdI X.gb W ent (iRange range3 os)) :=
  (pi_range3 hg hm (pa_ops ha) (star_plain hp1 _ _) (back_plain (by simp [hp2, hp3]))).weak fun σ H Rc h => range_core (fun {rho F H vs ds es} l hf q => by
    unfold range3 at hf
    split at hf
    · split at hf
      · rename_i hc
        cases hf
        obtain ⟨v, w, u, rfl, h1, h2, h3⟩ := repBL3 l
        cases repB_int h1; cases repB_int h2; cases repB_int h3
        have e1 := hc.1
        subst e1
        have h8 := smI_of hc.2.1
        have h9 := smI_of hc.2.2.1
        refine ⟨_, _, _, _, rfl, ?_, q _ (walkD_rangeC ?_)⟩
        · exact RgC.neg (by omega) (by omega) (by omega) (by omega)
        · have : (sizeLine : Nat) = 16777216 := sizeLine_eq
          omega
      · cases hf
    · cases hf) h
end
end TM
namespace TM
open PySem PySem.Spec L2
open PyProof.Rows hiding St

/-! loops -/
def forL (t : Tg) (m : Sm) : List D → Sm
  | [], e, S => .ok .next e S
  | d :: ds, e, S => match t.asg d e with
    | some e1 => (m e1 S).bind fun f e S => match f with
      | .next => forL t m ds e S
      | .cont => forL t m ds e S
      | .brk => .ok .next e S
      | .ret s => .ok (.ret s) e S
    | none => .stuck
def sFor (it : Itx) (t : Tg) (m : Sm) : Sm := fun e S => (it e S).bind fun ds e S => forL t m ds e S
def whileL (t : Tx) (m : Sm) : Nat → Sm
  | 0, _, _ => .stuck
  | n + 1, e, S => (t e S).bind fun b e S => if b = true then (m e S).bind fun f e S => match f with
      | .next => whileL t m n e S
      | .cont => whileL t m n e S
      | .brk => .ok .next e S
      | .ret s => .ok (.ret s) e S
    else .ok .next e S
section
variable {X : Cx} {W : WX} {ent : Ent} {pos : Pos}
theorem semS_for {tg iter : Expr} {body : List Stmt} {it : Itx} {t : Tg} {m : Sm} {g : TG} (hp : PassesOwn (model X.prog X.w) X.A X.env X.xe) (hc : X.calm = true) (hi : PI X tg iter (rdI X.gb W ent it)) (hg : PG X tg g) (ht : TgR X.gb g t) (hb : PSs X body (rdS X.gb W ent m))
    (hs : ∀ x, foldedSetIterable iter X.env x = pure x) : PS X (.For tg iter body [] pos) (rdS X.gb W ent (sFor it t m)) := (ps_for hp hc hi hg hb hs).weak fun D σ H ⟨e, S, F, rho, hR, hq⟩ => by
  refine ⟨e, S, F, rho, hR, ?_⟩
  unfold sFor at hq
  cases q : it e S with
  | ok ds e1 S1 =>
    rw [q] at hq
    have hq : postS X.gb W ent F rho D (forL t m ds e1 S1) := hq
    intro J H1 F1 rho1 r1 s1 p1 wd
    obtain ⟨_, Gs, Y, w, hGs, hY⟩ := wd
    refine for_it w (fun i σ H => ∃ (e : Env) (S : Sto) (F2 : Hp) (rho2 : List Addr), R X.gb ent e S σ H F2 rho2 ∧ Sub F1 F2 ∧ Pre rho1 rho2 ∧ postS X.gb W ent F2 rho2 D (forL t m (ds.drop i) e S)) ⟨e1, S1, F1, rho1, r1, Sub.refl _, Pre.refl _, postS.mono s1 p1 hq⟩
      (fun i σ H _ ⟨_, _, F2, _, r2, s2, _, _⟩ => hGs H (s2.trans r2.sub)) (fun i x σ H H' hi hP hy => ?_) (fun σ H hP => ?_)
    · obtain ⟨e2, S2, F2, rho2, r2, s2, p2, hq2⟩ := hP
      have hd : ds.drop i = ds[i] :: ds.drop (i + 1) := List.drop_eq_getElem_cons hi
      rw [hd] at hq2
      obtain ⟨F3, g3, rep3⟩ := hY i H x H' ds[i] rho2 F2 (List.getElem?_eq_getElem hi) p2 s2 r2.sub hy
      have r3 := r2.grow g3
      have s3 := g3.sub r2.sub
      have hq2 : postS X.gb W ent F2 rho2 D (match t.asg ds[i] e2 with
        | some e1 => (m e1 S2).bind fun f e S => match f with
          | .next => forL t m (ds.drop (i + 1)) e S
          | .cont => forL t m (ds.drop (i + 1)) e S
          | .brk => .ok .next e S
          | .ret s => .ok (.ret s) e S
        | none => .stuck) := hq2
      split at hq2
      · rename_i e3 he3
        refine ht r3 rep3 he3 fun σ3 r4 _ _ => ⟨e3, S2, F3, rho2, r4, ?_⟩
        cases q4 : m e3 S2 with
        | ok f e5 S5 =>
          rw [q4] at hq2
          intro σ5 H5 F5 rho5 r5 s5 p5
          cases f with
          | next => exact ⟨e5, S5, F5, rho5, r5, (s2.trans s3).trans s5, p2.trans p5, postS.mono (s3.trans s5) p5 hq2⟩
          | cont => exact ⟨e5, S5, F5, rho5, r5, (s2.trans s3).trans s5, p2.trans p5, postS.mono (s3.trans s5) p5 hq2⟩
          | brk => exact hq2 σ5 H5 F5 rho5 r5 (s3.trans s5) p5
          | ret sl => exact hq2 σ5 H5 F5 rho5 r5 (s3.trans s5) p5
        | exc x e5 S5 => rw [q4] at hq2; exact fun σ => postX.mono s3 (Pre.refl _) (hq2 σ)
        | stuck => rw [q4] at hq2; exact hq2.elim
      · exact hq2.elim
    · obtain ⟨e2, S2, F2, rho2, r2, s2, p2, hq2⟩ := hP
      rw [List.drop_length] at hq2
      exact hq2 σ H F2 rho2 r2 (Sub.refl _) (Pre.refl _)
  | exc x e1 S1 => rw [q] at hq; exact hq σ
  | stuck => rw [q] at hq; exact hq.elim
theorem semS_while {c : Expr} {body : List Stmt} {t : Tx} {m : Sm} (n : Nat) (hp : PassesOwn (model X.prog X.w) X.A X.env X.xe) (hc : PT X c (rdT X.gb W ent t)) (hb : PSs X body (rdS X.gb W ent m)) : PS X (.While c body [] pos) (rdS X.gb W ent (whileL t m n)) :=
  (ps_while hp hc hb).weak fun D σ H ⟨e, S, F, rho, hR, hq⟩ => by
    refine ⟨fun k σ H => ∃ (e : Env) (S : Sto) (F2 : Hp) (rho2 : List Addr), R X.gb ent e S σ H F2 rho2 ∧ postS X.gb W ent F2 rho2 D (whileL t m k e S), ⟨n, e, S, F, rho, hR, hq⟩, fun k σ H hW => ?_⟩
    obtain ⟨e, S, F, rho, hR, hq⟩ := hW
    cases k with
    | zero => exact hq.elim
    | succ k =>
      refine ⟨e, S, F, rho, hR, ?_⟩
      have hq : postS X.gb W ent F rho D ((t e S).bind fun b e S => if b = true then (m e S).bind fun f e S => match f with
          | .next => whileL t m k e S
          | .cont => whileL t m k e S
          | .brk => .ok .next e S
          | .ret s => .ok (.ret s) e S
        else .ok .next e S) := hq
      cases q : t e S with
      | ok b e1 S1 =>
        rw [q] at hq
        intro H1 F1 rho1 r1 s1 p1
        cases b with
        | false => exact hq σ H1 F1 rho1 r1 s1 p1
        | true =>
          have hq : postS X.gb W ent F rho D ((m e1 S1).bind fun f e S => match f with
            | .next => whileL t m k e S
            | .cont => whileL t m k e S
            | .brk => .ok .next e S
            | .ret s => .ok (.ret s) e S) := hq
          refine ⟨fun σ H => ∃ (e : Env) (S : Sto) (F2 : Hp) (rho2 : List Addr), R X.gb ent e S σ H F2 rho2 ∧ postS X.gb W ent F2 rho2 D (whileL t m k e S), fun σ' H' hN => ⟨k, Nat.lt_succ_self _, hN⟩, e1, S1, F1, rho1, r1, ?_⟩
          cases q4 : m e1 S1 with
          | ok f e5 S5 =>
            rw [q4] at hq
            intro σ5 H5 F5 rho5 r5 s5 p5
            cases f with
            | next => exact ⟨e5, S5, F5, rho5, r5, postS.mono (s1.trans s5) (p1.trans p5) hq⟩
            | cont => exact ⟨e5, S5, F5, rho5, r5, postS.mono (s1.trans s5) (p1.trans p5) hq⟩
            | brk => exact hq σ5 H5 F5 rho5 r5 (s1.trans s5) (p1.trans p5)
            | ret sl => exact hq σ5 H5 F5 rho5 r5 (s1.trans s5) (p1.trans p5)
          | exc x e5 S5 => rw [q4] at hq; exact fun σ => postX.mono s1 p1 (hq σ)
          | stuck => rw [q4] at hq; exact hq.elim
      | exc x e1 S1 => rw [q] at hq; exact hq σ
      | stuck => rw [q] at hq; exact hq.elim
end

/-! comprehensions -/
def wipeE (e : Env) : List Nat → Env
  | [] => e
  | v :: vs => (wipeE e vs).set v none
def backE (e0 e : Env) : List Nat → Env
  | [] => e
  | v :: vs => (backE e0 e vs).set v ((e0[v]?).getD none)
/-- no slot of these is owned -/
def plainS (e : Env) (vs : List Nat) : Bool := vs.all fun v => match e[v]? with
  | some (some s) => s.isVal
  | _ => true
theorem wipeE_some {e : Env} {i : Nat} {s : Slot} : ∀ {vs : List Nat}, (wipeE e vs)[i]? = some (some s) → e[i]? = some (some s) ∧ i ∉ vs
  | [], h => ⟨h, by simp⟩
  | v :: vs, h => by
    unfold wipeE at h
    rcases get_set h with ⟨_, q⟩ | ⟨ne, q⟩
    · cases q
    · obtain ⟨h1, h2⟩ := wipeE_some q
      exact ⟨h1, by simp only [List.mem_cons, not_or]; exact ⟨fun z => ne z.symm, h2⟩⟩
theorem wipeE_length (e : Env) : ∀ vs : List Nat, (wipeE e vs).length = e.length
  | [] => rfl
  | v :: vs => by unfold wipeE; rw [List.length_set, wipeE_length e vs]
theorem backE_length (e0 e : Env) : ∀ vs : List Nat, (backE e0 e vs).length = e.length
  | [] => rfl
  | v :: vs => by unfold backE; rw [List.length_set, backE_length e0 e vs]
theorem wipe_ne {σ : L2.St} {i : Nat} : ∀ {vs : List Nat}, i ∉ vs → (wipe σ vs)[i]? = σ[i]?
  | [], _ => rfl
  | v :: vs, h => by
    simp only [List.mem_cons, not_or] at h
    unfold wipe
    rw [List.getElem?_set_ne (fun z => h.1 z.symm), wipe_ne h.2]
theorem backE_some {e0 e : Env} {i : Nat} {s : Slot} : ∀ {vs : List Nat}, (backE e0 e vs)[i]? = some (some s) → (i ∈ vs ∧ e0[i]? = some (some s)) ∨ (i ∉ vs ∧ e[i]? = some (some s))
  | [], h => .inr ⟨by simp, h⟩
  | v :: vs, h => by
    unfold backE at h
    rcases get_set h with ⟨e1, q⟩ | ⟨ne, q⟩
    · subst e1
      refine .inl ⟨List.mem_cons_self .., ?_⟩
      cases z : e0[v]? with
      | none => rw [z] at q; cases q
      | some o => rw [z] at q; exact congrArg some q.symm
    · rcases backE_some q with ⟨h1, h2⟩ | ⟨h1, h2⟩
      · exact .inl ⟨List.mem_cons_of_mem _ h1, h2⟩
      · exact .inr ⟨by simp only [List.mem_cons, not_or]; exact ⟨fun z => ne z.symm, h1⟩, h2⟩
section
variable {G : Gb} {W : WX} {ent : Ent} {e : Env} {S : Sto} {σ : L2.St} {H F H' F' : Hp} {rho rho' : List Addr}
theorem R.wipe (r : R G ent e S σ H F rho) (vs : List Nat) : R G ent (wipeE e vs) S (L2.wipe σ vs) H F rho where
  len := by rw [wipeE_length, wipe_length]; exact r.len
  sub := r.sub
  val := fun i d h => by
    obtain ⟨h1, h2⟩ := wipeE_some h
    rw [wipe_ne h2]; exact r.val i d h1
  own := fun i s h hs => by
    obtain ⟨h1, h2⟩ := wipeE_some h
    rw [wipe_ne h2]; exact r.own i s h1 hs
  sep := fun i j s t a h hs k ht x y => by
    obtain ⟨h1, h2⟩ := wipeE_some h
    obtain ⟨k1, k2⟩ := wipeE_some k
    rw [wipe_ne h2] at x
    rw [wipe_ne k2] at y
    exact r.sep i j s t a h1 hs k1 ht x y
  slen := r.slen
  sto := r.sto
  nod := r.nod
  keep := r.keep
  sub0 := r.sub0
  pre0 := r.pre0
theorem R.back {e0 : Env} {S0 : Sto} {H0 F0 : Hp} {rho0 : List Addr} {vs : List Nat} (r0 : R G ent e0 S0 σ H0 F0 rho0) (hp : plainS e0 vs = true) (r : R G ent e S (L2.wipe σ vs) H F rho) (s : Sub F0 F) (p : Pre rho0 rho) : R G ent (backE e0 e vs) S σ H F rho where
  len := by rw [backE_length, r.len, wipe_length]
  sub := r.sub
  val := fun i d h => by
    rcases backE_some h with ⟨h1, h2⟩ | ⟨h1, h2⟩
    · obtain ⟨v, q1, q2⟩ := r0.val i d h2
      exact ⟨v, q1, q2.mono s p⟩
    · obtain ⟨v, q1, q2⟩ := r.val i d h2
      exact ⟨v, (wipe_some q1).1, q2⟩
  own := fun i t h hs => by
    rcases backE_some h with ⟨h1, h2⟩ | ⟨h1, h2⟩
    · unfold plainS at hp
      rw [List.all_eq_true] at hp
      have := hp i h1
      rw [h2] at this
      have this : t.isVal = true := this
      rw [hs] at this; cases this
    · obtain ⟨a, q1, q2⟩ := r.own i t h2 hs
      exact ⟨a, (wipe_some q1).1, q2⟩
  sep := fun i j t u a h hs k ht x y => by
    have key : ∀ (i : Nat) (t : Slot), (backE e0 e vs)[i]? = some (some t) → t.isVal = false → i ∉ vs ∧ e[i]? = some (some t) := fun i t h hs => by
      rcases backE_some h with ⟨h1, h2⟩ | q
      · unfold plainS at hp
        rw [List.all_eq_true] at hp
        have := hp i h1
        rw [h2] at this
        have this : t.isVal = true := this
        rw [hs] at this; cases this
      · exact q
    obtain ⟨n1, q1⟩ := key i t h hs
    obtain ⟨n2, q2⟩ := key j u k ht
    exact r.sep i j t u a q1 hs q2 ht (by rw [wipe_ne n1]; exact x) (by rw [wipe_ne n2]; exact y)
  slen := r.slen
  sto := r.sto
  nod := r.nod
  keep := r.keep
  sub0 := r.sub0
  pre0 := r.pre0
end
end TM
namespace TM
open PySem PySem.Spec L2
open PyProof.Rows hiding St

/-! list comprehensions -/
/-- no exception leaves -/
def W0 : WX := fun _ _ _ _ => False
theorem takes0 {X : Cx} : Takes X W0 := fun _ _ ⟨_, _, _, _, _, _, _, _, _, _, _, _, _, _, _, _, w⟩ => w.elim
def rdEx (G : Gb) (m : Ex) : TE := fun σ H Q => ∃ ent, rdE G W0 ent m σ H Q
def rdTx (G : Gb) (m : Tx) : TT := fun σ H Q => ∃ ent, rdT G W0 ent m σ H Q
def rdIx (G : Gb) (m : Itx) : TI := fun σ H Q => ∃ ent, rdI G W0 ent m σ H Q
/-- what the elements come to, from the items ds on; B does a turn -/
abbrev Turn := List D → Env → Sto → Out (List D)
def compL (vs : List Nat) (t : Tg) (tt : Tx) (B : Turn) : List D → Turn
  | [], acc, e, S => .ok acc e S
  | d :: ds, acc, e, S => match t.asg d e with
    | none => .stuck
    | some e1 => match tt e1 S with
      | .ok true e2 S2 => match B acc e2 S2 with
        | .ok acc3 e3 S3 => compL vs t tt B ds acc3 (wipeE e3 vs) S3
        | _ => .stuck
      | .ok false e2 S2 => compL vs t tt B ds acc (wipeE e2 vs) S2
      | _ => .stuck
def turn1 (m : Ex) : Turn := fun acc e S => match m e S with
  | .ok y e S => if acc.length < sizeLine then .ok (acc ++ [y]) e S else .stuck
  | _ => .stuck
def turn2 (it : Itx) (vs : List Nat) (t : Tg) (tt : Tx) (m : Ex) : Turn := fun acc e S => match it e S with
  | .ok ds e S => compL vs t tt (turn1 m) ds acc (wipeE e vs) S
  | _ => .stuck
def wCompB (it : Itx) (vs : List Nat) (t : Tg) (tt : Tx) (B : Turn) : Wx := fun e S => (it e S).bind fun ds e1 S1 => if plainS e1 vs = true then
    match compL vs t tt B ds [] (wipeE e1 vs) S1 with
    | .ok acc e2 S2 => .ok (.own acc) (backE e1 e2 vs) S2
    | _ => .stuck
  else .stuck
def wComp (it : Itx) (vs : List Nat) (t : Tg) (tt : Tx) (m : Ex) : Wx := wCompB it vs t tt (turn1 m)
def wComp2 (it : Itx) (vs : List Nat) (t : Tg) (tt : Tx) (it1 : Itx) (vs1 : List Nat) (t1 : Tg) (tt1 : Tx) (m : Ex) : Wx := wCompB it vs t tt (turn2 it1 vs1 t1 tt1 m)
/-- the list that is being made stands besides -/
def Ent.hold (ent : Ent) (p : Addr) (o : HO) : Ent := ⟨fun a u => ent.Pr a u ∨ (a = p ∧ u = o), ent.F, ent.rho⟩
theorem wipe_same {σ σ' : L2.St} {vs : List Nat} (hl : σ'.length = σ.length) (h : ∀ j, j ∉ vs → σ'[j]? = σ[j]?) : wipe σ' vs = wipe σ vs := by
  apply List.ext_getElem?
  intro i
  by_cases hi : i ∈ vs
  · have : ∀ τ : L2.St, (wipe τ vs)[i]? = if i < τ.length then some none else none := by
      intro τ
      clear h hl
      induction vs with
      | nil => cases hi
      | cons v vs ih =>
        unfold wipe
        by_cases e : v = i
        · subst e
          by_cases hl : v < τ.length
          · rw [if_pos hl, List.getElem?_set_self (by rw [wipe_length]; exact hl)]
          · rw [if_neg hl, List.getElem?_eq_none (by rw [List.length_set, wipe_length]; omega)]
        · rw [List.getElem?_set_ne e]
          rcases List.mem_cons.mp hi with q | q
          · exact absurd q.symm e
          · exact ih q
    rw [this, this, hl]
  · rw [wipe_ne hi, wipe_ne hi, h i hi]
section
variable {G : Gb} {ent : Ent}
theorem R.held {e : Env} {S : Sto} {σ : L2.St} {H F : Hp} {rho : List Addr} (r : R G ent e S σ H F rho) {p : Addr} {o : HO} (hp : H p = some o) (hf : F p = none) (hr : p ∉ rho)
    (hn : ∀ (i : Nat) (t : Slot), e[i]? = some (some t) → t.isVal = false → σ[i]? ≠ some (some (.ref p))) : R G (ent.hold p o) e S σ H F rho where
  len := r.len
  sub := r.sub
  val := r.val
  own := fun i s h hs => by
    obtain ⟨a, q1, q2, q3, q4, q5⟩ := r.own i s h hs
    refine ⟨a, q1, q2, q3, fun u z => ?_, q5⟩
    rcases z with z | ⟨rfl, _⟩
    · exact q4 u z
    · exact hn i s h hs q1
  sep := r.sep
  slen := r.slen
  sto := r.sto
  nod := r.nod
  keep := fun a u h => by
    rcases h with h | ⟨rfl, rfl⟩
    · exact r.keep a u h
    · exact ⟨hp, hf, hr⟩
  sub0 := r.sub0
  pre0 := r.pre0
/-- an object that is nobody's is changed -/
theorem R.poke {e : Env} {S : Sto} {σ : L2.St} {H F : Hp} {rho : List Addr} (r : R G ent e S σ H F rho) {p : Addr} {o : HO} (hf : F p = none) (hr : p ∉ rho) (h0 : ∀ o, ¬ ent.Pr p o)
    (hn : ∀ (i : Nat) (t : Slot), e[i]? = some (some t) → t.isVal = false → σ[i]? ≠ some (some (.ref p))) : R G ent e S σ (upd H p o) F rho where
  len := r.len
  sub := fun a u h => by
    rw [upd_ne (fun z => by subst z; rw [hf] at h; cases h)]; exact r.sub a u h
  val := r.val
  own := fun i s h hs => by
    obtain ⟨a, q1, q2, q3, q4, q5⟩ := r.own i s h hs
    exact ⟨a, q1, q2.mono (Sub.refl _) (Pre.refl _) (upd_ne (fun z : a = p => hn i s h hs (by rw [← z]; exact q1))), q3, q4, q5⟩
  sep := r.sep
  slen := r.slen
  sto := fun n u a h1 h2 => by
    obtain ⟨q, f⟩ := r.sto n u a h1 h2
    exact ⟨q.mono (Sub.refl _) (Pre.refl _) (upd_ne (fun z : a = p => hr (by rw [← z]; exact List.mem_of_getElem? h2))), f⟩
  nod := r.nod
  keep := fun a u h => by
    obtain ⟨k1, k2, k3⟩ := r.keep a u h
    exact ⟨by rw [upd_ne (fun z : a = p => h0 u (by rw [← z]; exact h))]; exact k1, k2, k3⟩
  sub0 := r.sub0
  pre0 := r.pre0
/-- the list at p of a comprehension -/
structure Held (G : Gb) (ent : Ent) (rho : List Addr) (F H : Hp) (p : Addr) (acc : List D) : Prop where
  at_ : ∃ xs, H p = some (.lst xs) ∧ RepL G rho F xs acc
  fr : F p = none
  nr : p ∉ rho
  np : ∀ o, ¬ ent.Pr p o
  ln : acc.length ≤ sizeLine
theorem Held.get {ent : Ent} {rho : List Addr} {F H : Hp} {p : Addr} {acc : List D} (h : Held G ent rho F H p acc) : ∃ o, H p = some o := let ⟨xs, q, _⟩ := h.at_; ⟨_, q⟩
/-- behind a step that kept the list -/
theorem Held.step {e : Env} {S : Sto} {σ : L2.St} {H F : Hp} {rho : List Addr} {H' F' : Hp} {rho' : List Addr} {p : Addr} {acc : List D} {o : HO} (h : Held G ent rho F H p acc) (ho : H p = some o) (r : R G (ent.hold p o) e S σ H' F' rho') (s : Sub F F') (q : Pre rho rho') :
    Held G ent rho' F' H' p acc ∧ R G ent e S σ H' F' rho' ∧ ∀ (i : Nat) (t : Slot), e[i]? = some (some t) → t.isVal = false → σ[i]? ≠ some (some (.ref p)) := by
  obtain ⟨xs, h1, h2⟩ := h.at_
  obtain ⟨k1, k2, k3⟩ := r.keep p o (.inr ⟨rfl, rfl⟩)
  rw [ho] at h1
  refine ⟨⟨⟨xs, k1.trans h1, h2.mono s q⟩, k2, k3, h.np, h.ln⟩, r.less (fun a u z => Or.inl z) rfl rfl, fun i t hi ht z => ?_⟩
  obtain ⟨a, q1, _, _, q4, _⟩ := r.own i t hi ht
  rw [q1] at z; cases z
  exact q4 o (.inr ⟨rfl, rfl⟩)
/-- the walk of the kit's readings -/
def Wk (J : It) (g : TG) (tt : TT) (X : St → Hp → (Hp → Prop) → Prop) (vs : List Nat) (σ : L2.St) (Nx : Hp → Prop) (H0 : Hp) : Prop :=
  ∃ W1 : Nat → Nat → Hp → Prop, (∃ m, W1 0 m H0) ∧ ∀ j k H, W1 j k H → (J.stop j H ∧ Nx H) ∨ (J.go j H ∧ ∃ Nx1 : Hp → Prop, (∀ H', Nx1 H' → ∃ k', k' < k ∧ W1 (j + 1) k' H') ∧
    ∀ x H', J.yld j H x H' → g x (wipe σ vs) H' fun σ3 H5 => wipe σ3 vs = wipe σ vs ∧ tt σ3 H5 fun b H6 => if b = true then X σ3 H6 Nx1 else Nx1 H6)
theorem wk_it {J : It} {n : Nat} {Gs : Hp → Prop} {Y : Nat → Hp → V → Hp → Prop} (w : Walk J n Gs Y) {g : TG} {tt : TT} {X : St → Hp → (Hp → Prop) → Prop} {vs : List Nat} {σ : L2.St} {H0 : Hp} {Nx : Hp → Prop} (Pv : Nat → Hp → Prop) (h0 : Pv 0 H0) (hG : ∀ i H, i ≤ n → Pv i H → Gs H)
    (hs : ∀ i x H H', i < n → Pv i H → Y i H x H' → g x (wipe σ vs) H' fun σ2 H2 => wipe σ2 vs = wipe σ vs ∧ tt σ2 H2 fun b H3 => if b = true then X σ2 H3 (Pv (i + 1)) else Pv (i + 1) H3) (hd : ∀ H, Pv n H → Nx H) : Wk J g tt X vs σ Nx H0 := by
  refine ⟨fun i m H => m = n - i ∧ i ≤ n ∧ Pv i H, ⟨n, by simp, Nat.zero_le _, h0⟩, ?_⟩
  rintro i m H ⟨rfl, hi, p⟩
  have q := hG i H hi p
  by_cases hlt : i < n
  · exact .inr ⟨w.goes i H hlt q, Pv (i + 1), fun H' p' => ⟨n - (i + 1), by omega, rfl, hlt, p'⟩, fun x H' y => hs i x H H' hlt p (w.yields i H x H' hlt q y)⟩
  · have e : i = n := by omega
    subst e
    exact .inl ⟨w.stops H q, hd H p⟩
/-- nobody's slot holds p -/
def NoSlot (e : Env) (τ : L2.St) (p : Addr) : Prop := ∀ (i : Nat) (t : Slot), e[i]? = some (some t) → t.isVal = false → τ[i]? ≠ some (some (.ref p))
/-- as it stands between turns -/
def CI (G : Gb) (ent : Ent) (F1 : Hp) (rho1 : List Addr) (τ : L2.St) (p : Addr) (acc : List D) (e : Env) (S : Sto) (H : Hp) : Prop :=
  ∃ (F2 : Hp) (rho2 : List Addr), R G ent e S τ H F2 rho2 ∧ Sub F1 F2 ∧ Pre rho1 rho2 ∧ Held G ent rho2 F2 H p acc ∧ NoSlot e τ p
theorem NoSlot.wipe {e : Env} {τ : L2.St} {p : Addr} (h : NoSlot e τ p) (vs : List Nat) : NoSlot (wipeE e vs) (L2.wipe τ vs) p := fun j u hj hu z => by
  obtain ⟨q1, q2⟩ := wipeE_some hj
  refine h j u q1 hu ?_
  rw [wipe_ne q2] at z; exact z
/-- a turn's reading -/
def TurnOk (G : Gb) (vs : List Nat) (X : Addr → St → Hp → (Hp → Prop) → Prop) (B : Turn) : Prop := ∀ {ent : Ent} {e : Env} {S : Sto} {σ : L2.St} {H F : Hp} {rho : List Addr} {p : Addr} {acc : List D} {Nx : Hp → Prop}, R G ent e S σ H F rho → Held G ent rho F H p acc → NoSlot e σ p →
  (match B acc e S with
    | .ok acc' e' S' => ∀ (τ : L2.St) (H' : Hp), L2.wipe τ vs = L2.wipe σ vs → CI G ent F rho τ p acc' e' S' H' → Nx H'
    | _ => False) → X p σ H Nx
theorem comp_loop {vs : List Nat} {t : Tg} {tt : Tx} {B : Turn} {g : TG} {σ : L2.St} {H0 : Hp} {tq : TT} {X : Addr → St → Hp → (Hp → Prop) → Prop} {F1 : Hp} {rho1 : List Addr} {J : It} {ds acc : List D} {e : Env} {S : Sto} {p : Addr} {Nx : Hp → Prop} (hg : TgR G g t) (hsl : ∀ j ∈ t.slots, j ∈ vs)
    (htt : ∀ {σ H Q}, rdTx G tt σ H Q → tq σ H Q) (hX : TurnOk G vs X B) (wd : WalkD G rho1 F1 J ds) (ci : CI G ent F1 rho1 (wipe σ vs) p acc e S H0)
    (hd : match compL vs t tt B ds acc e S with
      | .ok acc' e' S' => ∀ H', CI G ent F1 rho1 (wipe σ vs) p acc' e' S' H' → Nx H'
      | _ => False) : Wk J g tq (X p) vs σ Nx H0 := by
  obtain ⟨hz, Gs, Y, w, hGs, hY⟩ := wd
  let Done : Out (List D) → Prop := fun o => match o with
    | .ok acc' e' S' => ∀ H', CI G ent F1 rho1 (wipe σ vs) p acc' e' S' H' → Nx H'
    | _ => False
  refine wk_it w (fun i H => ∃ (acc : List D) (e : Env) (S : Sto), CI G ent F1 rho1 (wipe σ vs) p acc e S H ∧ Done (compL vs t tt B (ds.drop i) acc e S)) ⟨acc, e, S, ci, hd⟩ (fun i H _ ⟨_, _, _, ⟨F2, _, r2, s2, _⟩, _⟩ => hGs H (s2.trans r2.sub)) (fun i x H H' hi hP hy => ?_) (fun H hP => ?_)
  · obtain ⟨acc, e2, S2, ⟨F2, rho2, r2, s2, p2, hh, hn⟩, hd⟩ := hP
    have hdr : ds.drop i = ds[i] :: ds.drop (i + 1) := List.drop_eq_getElem_cons hi
    rw [hdr] at hd
    obtain ⟨F3, g3, rep3⟩ := hY i H x H' ds[i] rho2 F2 (List.getElem?_eq_getElem hi) p2 s2 r2.sub hy
    obtain ⟨o, ho⟩ := hh.get
    have r2h := r2.held ho hh.fr hh.nr hn
    have r3 := r2h.grow g3
    have s3 := g3.sub r2.sub
    unfold compL at hd
    cases ha : t.asg ds[i] e2 with
    | none => rw [ha] at hd; exact hd.elim
    | some e3 =>
      rw [ha] at hd
      refine hg r3 rep3 ha fun σ3 r4 l4 k4 => ?_
      have hw : wipe σ3 vs = wipe σ vs := by
        have := wipe_same (σ' := σ3) (σ := wipe σ vs) (vs := vs) l4 fun j hj => k4 j fun z => hj (hsl j z)
        rw [this]
        exact wipe_same (wipe_length σ vs) fun j hj => wipe_ne hj
      refine ⟨hw, htt ⟨ent.hold p o, e3, S2, F3, rho2, r4, ?_⟩⟩
      have hd : Done (match tt e3 S2 with
        | .ok true e2 S2 => match B acc e2 S2 with
          | .ok acc3 e3 S3 => compL vs t tt B (ds.drop (i + 1)) acc3 (wipeE e3 vs) S3
          | _ => .stuck
        | .ok false e2 S2 => compL vs t tt B (ds.drop (i + 1)) acc (wipeE e2 vs) S2
        | _ => .stuck) := hd
      cases qt : tt e3 S2 with
      | ok b e4 S4 =>
        rw [qt] at hd
        intro H4 F4 rho4 r5 s5 p5
        obtain ⟨hh4, r5', hn4⟩ := hh.step ho r5 (s3.trans s5) p5
        cases b with
        | false =>
          rw [if_neg (by decide)]
          have rw4 := r5'.wipe vs
          have hn5 := NoSlot.wipe hn4 vs
          rw [hw] at rw4 hn5
          exact ⟨acc, wipeE e4 vs, S4, ⟨F4, rho4, rw4, (s2.trans s3).trans s5, p2.trans p5, hh4, hn5⟩, hd⟩
        | true =>
          rw [if_pos rfl]
          refine hX r5' hh4 hn4 ?_
          have hd : Done (match B acc e4 S4 with
            | .ok acc3 e3 S3 => compL vs t tt B (ds.drop (i + 1)) acc3 (wipeE e3 vs) S3
            | _ => .stuck) := hd
          cases qm : B acc e4 S4 with
          | ok acc5 e5 S5 =>
            rw [qm] at hd
            rintro τ H5 hτ ⟨F5, rho5, r6, s6, p6, hh5, hn5⟩
            have r7 := r6.wipe vs
            have hn7 := NoSlot.wipe hn5 vs
            rw [hτ, hw] at r7 hn7
            exact ⟨acc5, wipeE e5 vs, S5, ⟨F5, rho5, r7, ((s2.trans s3).trans s5).trans s6, (p2.trans p5).trans p6, hh5, hn7⟩, hd⟩
          | exc x e5 S5 => rw [qm] at hd; exact hd.elim
          | stuck => rw [qm] at hd; exact hd.elim
      | exc x e4 S4 => rw [qt] at hd; exact hd.elim
      | stuck => rw [qt] at hd; exact hd.elim
  · obtain ⟨acc, e2, S2, ci, hd⟩ := hP
    rw [List.drop_length] at hd
    exact hd H ci
/-- one element a turn -/
theorem turn1_ok {vs : List Nat} {m : Ex} : TurnOk G vs (fun p σ H Nx => rdEx G m σ H fun y H4 => ∃ acc, H4 p = some (.lst acc) ∧ acc.length < sizeLine ∧ Nx (upd H4 p (.lst (acc ++ [y])))) (turn1 m) := by
  intro ent e S σ H F rho p acc Nx r hh hn hd
  obtain ⟨o, ho⟩ := hh.get
  refine ⟨ent.hold p o, e, S, F, rho, r.held ho hh.fr hh.nr hn, ?_⟩
  unfold turn1 at hd
  cases qm : m e S with
  | ok y e5 S5 =>
    rw [qm] at hd
    intro v H5 F5 rho5 r6 s6 p6 rep6
    have hd : match (if acc.length < sizeLine then Out.ok (acc ++ [y]) e5 S5 else .stuck) with
      | .ok acc' e' S' => ∀ (τ : L2.St) (H' : Hp), L2.wipe τ vs = L2.wipe σ vs → CI G ent F rho τ p acc' e' S' H' → Nx H'
      | _ => False := hd
    split at hd
    · rename_i acc' e' S' hq
      split at hq
      · rename_i hlt
        cases hq
        obtain ⟨hh5, r6', hn5⟩ := hh.step ho r6 s6 p6
        obtain ⟨xs, hx, lx⟩ := hh5.at_
        refine ⟨xs, hx, by rw [lx.length]; exact hlt, ?_⟩
        exact hd σ _ rfl ⟨F5, rho5, r6'.poke (o := .lst (xs ++ [v])) hh5.fr hh5.nr hh5.np hn5, s6, p6, ⟨⟨_, upd_same, lx.append (.cons rep6 .nil)⟩, hh5.fr, hh5.nr, hh5.np, by rw [List.length_append]; simp; omega⟩, hn5⟩
      · cases hq
    · exact hd.elim
  | exc x e5 S5 => rw [qm] at hd; exact hd.elim
  | stuck => rw [qm] at hd; exact hd.elim
theorem wipe_wipe {σ : L2.St} {vs1 vs : List Nat} (h : ∀ j ∈ vs1, j ∈ vs) : wipe (wipe σ vs1) vs = wipe σ vs := wipe_same (wipe_length σ vs1) fun j hj => wipe_ne fun z => hj (h j z)
/-- a walk of its own each turn -/
theorem turn2_ok {vs vs1 : List Nat} {it : Itx} {t : Tg} {tt : Tx} {m : Ex} {g : TG} {tq : TT} (hg : TgR G g t) (hsl : ∀ j ∈ t.slots, j ∈ vs1) (hv : ∀ j ∈ vs1, j ∈ vs) (htt : ∀ {σ H Q}, rdTx G tt σ H Q → tq σ H Q) :
    TurnOk G vs (fun p σ H Nx => rdIx G it σ H fun J1 H4 => Wk J1 g tq (fun σ3 H6 Nx1 => rdEx G m σ3 H6 fun y H7 => ∃ acc, H7 p = some (.lst acc) ∧ acc.length < sizeLine ∧ Nx1 (upd H7 p (.lst (acc ++ [y])))) vs1 σ Nx H4) (turn2 it vs1 t tt m) := by
  intro ent e S σ H F rho p acc Nx r hh hn hd
  obtain ⟨o, ho⟩ := hh.get
  refine ⟨ent.hold p o, e, S, F, rho, r.held ho hh.fr hh.nr hn, ?_⟩
  unfold turn2 at hd
  cases qm : it e S with
  | ok ds e5 S5 =>
    rw [qm] at hd
    intro J H5 F5 rho5 r6 s6 p6 wd
    obtain ⟨hh5, r6', hn5⟩ := hh.step ho r6 s6 p6
    refine comp_loop hg hsl htt turn1_ok wd ⟨F5, rho5, r6'.wipe vs1, Sub.refl _, Pre.refl _, hh5, NoSlot.wipe hn5 vs1⟩ ?_
    have hd : match compL vs1 t tt (turn1 m) ds acc (wipeE e5 vs1) S5 with
      | .ok acc' e' S' => ∀ (τ : L2.St) (H' : Hp), L2.wipe τ vs = L2.wipe σ vs → CI G ent F rho τ p acc' e' S' H' → Nx H'
      | _ => False := hd
    cases q : compL vs1 t tt (turn1 m) ds acc (wipeE e5 vs1) S5 with
    | ok acc' e' S' =>
      rw [q] at hd
      rintro H' ⟨F6, rho6, r7, s7, p7, hh7, hn7⟩
      exact hd _ H' (wipe_wipe hv) ⟨F6, rho6, r7, s6.trans s7, p6.trans p7, hh7, hn7⟩
    | exc x e5 S5 => rw [q] at hd; exact hd.elim
    | stuck => rw [q] at hd; exact hd.elim
  | exc x e5 S5 => rw [qm] at hd; exact hd.elim
  | stuck => rw [qm] at hd; exact hd.elim
/-- the reading of a comprehension -/
theorem comp_core {W : WX} {it : Itx} {vs : List Nat} {t : Tg} {tt : Tx} {B : Turn} {g : TG} {σ : L2.St} {H : Hp} {Q : VK} {tq : TT} {X : Addr → St → Hp → (Hp → Prop) → Prop} (hg : TgR G g t) (hsl : ∀ j ∈ t.slots, j ∈ vs)
    (htt : ∀ {σ H Q}, rdTx G tt σ H Q → tq σ H Q) (hX : TurnOk G vs X B) (h : rdW G W ent (wCompB it vs t tt B) σ H Q) : rdI G W ent it σ H (fun J H1 => ∀ p, H1 p = none → Wk J g tq (X p) vs σ (Q (.ref p)) (upd H1 p (.lst []))) := by
  obtain ⟨e, S, F, rho, hR, hp⟩ := h
  refine ⟨e, S, F, rho, hR, ?_⟩
  unfold wCompB at hp
  cases q : it e S with
  | ok ds e1 S1 =>
    rw [q] at hp
    intro J H1 F1 rho1 r1 s1 p1 wd p hpn
    have hp : postW G W ent σ F rho Q (if plainS e1 vs = true then
        match compL vs t tt B ds [] (wipeE e1 vs) S1 with
        | .ok acc e2 S2 => .ok (.own acc) (backE e1 e2 vs) S2
        | _ => .stuck
      else .stuck) := hp
    split at hp
    · rename_i hpl
      have hfp : F1 p = none := by
        cases z : F1 p with
        | none => rfl
        | some o => rw [r1.sub p o z] at hpn; cases hpn
      have hrp : p ∉ rho1 := fun z => (r1.rhoSome z).1 hpn
      refine comp_loop hg hsl htt hX wd ⟨F1, rho1, (r1.wipe vs).lay hpn, Sub.refl _, Pre.refl _, ⟨⟨[], upd_same, .nil⟩, hfp, hrp, r1.fresh hpn, Nat.zero_le _⟩, fun i t hi ht z => ?_⟩ ?_
      · obtain ⟨a, q1, q2, _⟩ := (r1.wipe vs).own i t hi ht
        rw [q1] at z; cases z
        exact q2.isob hpn
      · revert hp
        cases qc : compL vs t tt B ds [] (wipeE e1 vs) S1 with
        | ok acc e2 S2 =>
          rintro hp H' ⟨F2, rho2, r2, s2, p2, hh, hn⟩
          have hd : postW G W ent σ F rho Q (.ok (.own acc) (backE e1 e2 vs) S2) := hp
          obtain ⟨xs, hx, lx⟩ := hh.at_
          have rb := R.back r1 hpl r2 s2 p2
          have hacc : acc.length ≤ sizeLine := hh.ln
          · refine hd _ H' F2 rho2 rb (s1.trans s2) (p1.trans p2) ⟨p, rfl, ⟨xs, hx, by rw [lx.length]; omega, lx⟩, hh.fr, hh.np, hh.nr, fun j u hj hu z => ?_⟩
            obtain ⟨a, q1, q2, _⟩ := rb.own j u hj hu
            rcases backE_some hj with ⟨h1, h2⟩ | ⟨h1, h2⟩
            · obtain ⟨b, z1, z2, _⟩ := r1.own j u h2 hu
              rw [z1] at z; cases z
              exact z2.isob hpn
            · exact hn j u h2 hu (by rw [wipe_ne h1]; exact z)
        | exc x e2 S2 => exact fun h => h
        | stuck => exact fun h => h
    · exact hp.elim
  | exc x e1 S1 => rw [q] at hp; exact hp
  | stuck => rw [q] at hp; exact hp.elim
end
end TM
namespace TM
open PySem PySem.Spec L2
open PyProof.Rows hiding St

/-! the context of a def's text -/
structure En where
  P : Program
  w : World
  K : PySem.W.Frag
  mg : Str → Option Value
  base : Heap
structure Bx (Z : En) (N : List Str) (sc : Scope) (fs : Str → Bool) (k : Nat) (X : Cx) (W : WX) : Prop extends Gd X k where
  n : X.N = N
  s : X.env.scope = sc
  f : X.fn = fs
  tk : Takes X W
  hP : X.prog = Z.P
  hw : X.w = Z.w
  hK : X.K = Z.K
  hm : X.mg = Z.mg
  hb : X.base = Z.base
structure Dx (Z : En) (N : List Str) (sc : Scope) (k : Nat) (X : Cx) (W : WX) : Prop extends Bx Z N sc (fun _ => true) k X W where
  po : PassesOwn (model X.prog X.w) X.A X.env X.xe
  stk : X.stack = X.env :: X.outer
  fr : X.env.frame = some X.env.locals
def isLoc : Option NameKind → Bool
  | some .local => true
  | some .cell => true
  | _ => false
def isVis : Option NameKind → Bool
  | some .local => true
  | some .cell => true
  | some .free => true
  | _ => false
def isL : Option NameKind → Bool
  | some .local => true
  | _ => false
def isGl : Option NameKind → Bool
  | some .globalImplicit => true
  | _ => false
def vOk (N : List Str) (sc : Scope) (i : Nat) (y : Str) : Bool := decide (N[i]? = some y) && (isVis (sc.names.lookup y) && (!(y == ("__debug__" : Str)) && !(y == ("__classdict__" : Str))))
def tOk (N : List Str) (sc : Scope) (fs : Str → Bool) (i : Nat) (y : Str) : Bool := decide (N[i]? = some y) && (isLoc (sc.names.lookup y) && (fs y || isL (sc.names.lookup y)))
def lOk (N : List Str) (sc : Scope) (i : Nat) (y : Str) : Bool := decide (N[i]? = some y) && isL (sc.names.lookup y)
def gOk (sc : Scope) (y : Str) : Bool := isGl (sc.names.lookup y) && (!(y == ("__debug__" : Str)) && !(y == ("__name__" : Str)))
theorem isLoc_of {o : Option NameKind} (h : isLoc o = true) : o = some .local ∨ o = some .cell := by
  unfold isLoc at h; split at h <;> simp_all
theorem isVis_of {o : Option NameKind} (h : isVis o = true) : o = some .local ∨ o = some .cell ∨ o = some .free := by
  unfold isVis at h; split at h <;> simp_all
theorem isL_of {o : Option NameKind} (h : isL o = true) : o = some .local := by
  unfold isL at h; split at h <;> simp_all
theorem isGl_of {o : Option NameKind} (h : isGl o = true) : o = some .globalImplicit := by
  unfold isGl at h; split at h <;> simp_all
section
variable {X : Cx} {W : WX} {ent : Ent} {Z : En} {N : List Str} {sc : Scope} {fs : Str → Bool} {k : Nat} {pos : Pos}
theorem Gl.of (c : Bx Z N sc fs k X W) {y : Str} (h : gOk sc y = true) : Gl X y := by
  unfold gOk at h; simp only [Bool.and_eq_true] at h
  have := isGl_of h.1
  rw [← c.s] at this; exact this
theorem gOk_debug {y : Str} (h : gOk sc y = true) : (y == ("__debug__" : Str)) = false := by
  unfold gOk at h; simp only [Bool.and_eq_true] at h
  simpa using h.2.1
theorem gOk_name {y : Str} (h : gOk sc y = true) : y ≠ ("__name__" : Str) := by
  unfold gOk at h; simp only [Bool.and_eq_true] at h
  simpa using h.2.2
theorem rv (c : Bx Z N sc fs k X W) (i : Nat) {y : Str} (h : vOk N sc i y = true) : PE X (.Name y pos) (tVar i) := by
  unfold vOk at h; simp only [Bool.and_eq_true, decide_eq_true_eq] at h
  refine pe_var (by rw [c.n]; exact h.1) (by unfold L2.Vis; rw [c.s]; exact isVis_of h.2.1) (by simpa using h.2.2.1) (by simpa using h.2.2.2)
/-- a name's value -/
theorem xv (c : Bx Z N sc fs k X W) (i : Nat) {y : Str} (h : vOk N sc i y = true) : PE X (.Name y pos) (rdE X.gb W ent (bVar i)) := sem_var (rv c i h)
/-- a name as an operand -/
theorem ov (c : Bx Z N sc fs k X W) (i : Nat) {y : Str} (h : vOk N sc i y = true) : OpE X W ent (.Name y pos) (.sl i) := rv c i h
theorem xi {i j} : PE X (.Constant (.int i) j pos) (rdE X.gb W ent (bC (.int i))) := sem_const pe_int fun _ _ => .int i
theorem xs {i j} : PE X (.Constant (.str i) j pos) (rdE X.gb W ent (bC (.str i))) := sem_const pe_str fun _ _ => .str i
theorem xb {i j} : PE X (.Constant (.bool i) j pos) (rdE X.gb W ent (bC (.bl i))) := sem_const pe_bl fun _ _ => .bl i
theorem xn {j} : PE X (.Constant .none j pos) (rdE X.gb W ent (bC .non)) := sem_const pe_non fun _ _ => .non
theorem gn (c : Bx Z N sc fs k X W) (i : Nat) {y : Str} (h : tOk N sc fs i y = true) : PG X (.Name y pos) (gName i) := by
  unfold tOk at h; simp only [Bool.and_eq_true, decide_eq_true_eq] at h
  refine pg_name c.nd (by rw [c.n]; exact h.1) (by unfold L2.Loc; rw [c.s]; exact isLoc_of h.2.1) ?_
  have := h.2.2
  rw [Bool.or_eq_true] at this
  rcases this with q | q
  · exact .inl (by rw [c.f]; exact q)
  · exact .inr (by rw [c.s]; exact isL_of q)
/-- operands' syntax, the plain ones -/
theorem opc {x : Expr} {o : Opr} {es : List Expr} {os : List Opr} (h : OpE X W ent x o) (t : OpsE X W ent es os) (hp : plainA x = true := by rfl) : OpsE X W ent (x :: es) (o :: os) := .cons h (fun es' => star_plain hp es' _) t
theorem opn : OpsE X W ent [] [] := .nil

/-! comprehensions -/
abbrev bsc (scope sc : Scope) : Scope := relS scope sc
theorem Bx.blk (c : Bx Z N sc fs k X W) (s : Shared) (H : Hp) (scope : Scope) (C : Addr) (cl : List (Str × Addr)) (fp : List Addr) : Bx Z N (relS scope sc) (fun x => scope.names.lookup x == some .cell) k (X.blk s H scope (compEnvC scope cl C X.env) fp) W0 where
  nd := c.nd
  calm := c.calm
  room := c.room
  gua := c.gua
  n := c.n
  s := by rw [← c.s]; rfl
  f := rfl
  tk := takes0
  hP := c.hP
  hw := c.hw
  hK := c.hK
  hm := c.hm
  hb := c.hb
theorem exX {G : Gb} {Y : Cx} {x : Expr} {m : Ex} (h : ∀ ent, PE Y x (rdE G W0 ent m)) : PE Y x (rdEx G m) := ⟨fun pins s σ H Q I ⟨ent, hq⟩ => (h ent).run pins s σ H Q I hq⟩
theorem exT {G : Gb} {Y : Cx} {x : Expr} {m : Tx} (h : ∀ ent, PT Y x (rdT G W0 ent m)) : PT Y x (rdTx G m) := ⟨fun pins s σ H Q I ⟨ent, hq⟩ => (h ent).run pins s σ H Q I hq⟩
theorem exI {G : Gb} {Y : Cx} {g x : Expr} {m : Itx} (h : ∀ ent, PI Y g x (rdI G W0 ent m)) : PI Y g x (rdIx G m) := ⟨fun pins s σ H Q I ⟨ent, hq⟩ => (h ent).run pins s σ H Q I hq⟩
def bTT : Tx := fun e S => .ok true e S
/-- a clause's tests: none, one -/
inductive Ifs (G : Gb) (Y : Cx) : List Expr → Tx → TT → Prop
  | nil : Ifs G Y [] bTT tYes
  | one {x : Expr} {t : Tx} : (∀ ent, PT Y x (rdT G W0 ent t)) → Ifs G Y [x] t (rdTx G t)
theorem Ifs.pts {G : Gb} {Y : Cx} {l : List Expr} {t : Tx} {q : TT} : Ifs G Y l t q → PTs Y l q
  | .nil => pts_nil
  | .one h => pts_one (exT h)
theorem Ifs.rd {G : Gb} {Y : Cx} {l : List Expr} {t : Tx} {q : TT} (h : Ifs G Y l t q) : ∀ {σ H Q}, rdTx G t σ H Q → q σ H Q := by
  intro σ H Q
  cases h with
  | nil => rintro ⟨ent, e, S, F, rho, r, p⟩; exact p H F rho r (Sub.refl _) (Pre.refl _)
  | one _ => exact fun p => p
def inAll (ks vs : List Nat) : Bool := ks.all fun j => vs.contains j
theorem inAll_of {ks vs : List Nat} (h : inAll ks vs = true) : ∀ j ∈ ks, j ∈ vs := by
  unfold inAll at h
  simpa using h
theorem wkTurn1 {G : Gb} {t : Tg} {tt : Tx} {m : Ex} {it : Itx} {vs : List Nat} {g : TG} {tq : TT} {σ : L2.St} {H : Hp} {Q : VK} (hg : TgR G g t) (hsl : inAll t.slots vs = true) (htt : ∀ {σ H Q}, rdTx G tt σ H Q → tq σ H Q)
    (h : rdW G W ent (wComp it vs t tt m) σ H Q) : tLc (rdI G W ent it) g tq (rdEx G m) vs σ H Q := comp_core hg (inAll_of hsl) htt turn1_ok h
theorem wkTurn2 {G : Gb} {t t1 : Tg} {tt tt1 : Tx} {m : Ex} {it it1 : Itx} {vs vs1 : List Nat} {g g1 : TG} {tq tq1 : TT} {σ : L2.St} {H : Hp} {Q : VK} (hg : TgR G g t) (hsl : inAll t.slots vs = true) (htt : ∀ {σ H Q}, rdTx G tt σ H Q → tq σ H Q)
    (hg1 : TgR G g1 t1) (hsl1 : inAll t1.slots vs1 = true) (hv : inAll vs1 vs = true) (htt1 : ∀ {σ H Q}, rdTx G tt1 σ H Q → tq1 σ H Q)
    (h : rdW G W ent (wComp2 it vs t tt it1 vs1 t1 tt1 m) σ H Q) : tLc2 (rdI G W ent it) g tq (rdIx G it1) g1 tq1 (rdEx G m) vs vs1 σ H Q := comp_core hg (inAll_of hsl) htt (turn2_ok hg1 (inAll_of hsl1) (inAll_of hv) htt1) h

variable {elt tg iter tg1 iter1 : Expr} {ifs ifs1 : List Expr} {scope : Scope} {own : List (Str × Nat)} {it it1 : Itx} {t t1 : Tg} {tt tt1 : Tx} {m : Ex} {g g1 : TG} {tq tq1 : TT} {vs1 : List Nat}
/-- [elt for tg in iter if ..] -/
theorem semW_lc (c : Bx Z N sc fs k X W) (own : List (Str × Nat)) (hok : blkC N sc scope own = true) (hi : PI X tg iter (rdI X.gb W ent it)) (hgr : TgR X.gb g t) (hsl : inAll t.slots (own.map (·.2)) = true)
    (hg : ∀ s H C cl fp, Bx Z N (relS scope sc) (fun x => scope.names.lookup x == some .cell) k (X.blk s H scope (compEnvC scope cl C X.env) fp) W0 → PG (X.blk s H scope (compEnvC scope cl C X.env) fp) tg g ∧ Ifs X.gb (X.blk s H scope (compEnvC scope cl C X.env) fp) ifs tt tq ∧ ∀ ent, PE (X.blk s H scope (compEnvC scope cl C X.env) fp) elt (rdE X.gb W0 ent m))
    (hs : ∀ x, foldedSetIterable iter X.env x = pure x := by intro _; rfl) :
    PE X (.ListComp elt [⟨tg, iter, ifs, 0⟩] scope pos) (rdW X.gb W ent (wComp it (own.map (·.2)) t tt m)) := by
  have hh : ∀ (s : Shared) (H : Hp) (C : Addr) (cl : List (Str × Addr)) (fp : List Addr), PG (X.blk s H scope (compEnvC scope cl C X.env) fp) tg g ∧ Ifs X.gb (X.blk s H scope (compEnvC scope cl C X.env) fp) ifs tt tq ∧ ∀ ent, PE (X.blk s H scope (compEnvC scope cl C X.env) fp) elt (rdE (X.blk s H scope (compEnvC scope cl C X.env) fp).gb W0 ent m) := fun s H C cl fp => hg s H C cl fp (c.blk s H scope C cl fp)
  have htt : ∀ {σ H Q}, rdTx X.gb tt σ H Q → tq σ H Q := fun {σ H Q} q => (hh X.s_0 H 0 [] []).2.1.rd q
  refine (pe_lc (te := rdEx X.gb m) c.calm c.nd hi (blkOk_by (by rw [c.n, c.s]; exact hok)) (fun s H C cl fp => (hh s H C cl fp).1) (fun s H C cl fp => (hh s H C cl fp).2.1.pts) (fun s H C cl fp => exX (hh s H C cl fp).2.2) hs).weak fun σ H Q h => wkTurn1 hgr hsl htt h
/-- y = [elt for tg in iter if ..] -/
theorem semS_setLc {i : Nat} {y : Str} {py spos : Pos} (c : Bx Z N sc fs k X W) (hy : lOk N sc i y = true) (hsw : swapsWith (.ListComp elt [⟨tg, iter, ifs, 0⟩] scope pos) (some (.Name y py)) spos.line X.env = pure true)
    (own : List (Str × Nat)) (hok : blkC N sc scope own = true) (hi : PI X tg iter (rdI X.gb W ent it)) (hgr : TgR X.gb g t) (hsl : inAll t.slots (own.map (·.2)) = true)
    (hg : ∀ s H C cl fp, Bx Z N (relS scope sc) (fun x => scope.names.lookup x == some .cell) k (X.blk s H scope (compEnvC scope cl C X.env) fp) W0 → PG (X.blk s H scope (compEnvC scope cl C X.env) fp) tg g ∧ Ifs X.gb (X.blk s H scope (compEnvC scope cl C X.env) fp) ifs tt tq ∧ ∀ ent, PE (X.blk s H scope (compEnvC scope cl C X.env) fp) elt (rdE X.gb W0 ent m))
    (hs : ∀ x, foldedSetIterable iter X.env x = pure x := by intro _; rfl) :
    PS X (.Assign [.Name y py] (.ListComp elt [⟨tg, iter, ifs, 0⟩] scope pos) spos) (rdS X.gb W ent (sSet i (wComp it (own.map (·.2)) t tt m))) := by
  unfold lOk at hy; simp only [Bool.and_eq_true, decide_eq_true_eq] at hy
  have hyl : X.env.scope.names.lookup y = some .local := by rw [c.s]; exact isL_of hy.2
  have hh : ∀ (s : Shared) (H : Hp) (C : Addr) (cl : List (Str × Addr)) (fp : List Addr), PG (X.blk s H scope (compEnvC scope cl C X.env) fp) tg g ∧ Ifs X.gb (X.blk s H scope (compEnvC scope cl C X.env) fp) ifs tt tq ∧ ∀ ent, PE (X.blk s H scope (compEnvC scope cl C X.env) fp) elt (rdE (X.blk s H scope (compEnvC scope cl C X.env) fp).gb W0 ent m) := fun s H C cl fp => hg s H C cl fp (c.blk s H scope C cl fp)
  have htt : ∀ {σ H Q}, rdTx X.gb tt σ H Q → tq σ H Q := fun {σ H Q} q => (hh X.s_0 H 0 [] []).2.1.rd q
  refine (ps_setLc (i := i) (te := rdEx X.gb m) c.calm c.nd (by rw [c.n]; exact hy.1) hyl hsw hi (blkOk_by (by rw [c.n, c.s]; exact hok)) (fun s H C cl fp => (hh s H C cl fp).1) (fun s H C cl fp => (hh s H C cl fp).2.1.pts) (fun s H C cl fp => exX (hh s H C cl fp).2.2) hs).weak fun D σ H ⟨e, S, F, rho, hR, hp⟩ => ?_
  refine wkTurn1 (W := W) (ent := ent) (Q := fun v H' => gName i v σ H' D.nx) hgr hsl htt ⟨e, S, F, rho, hR, ?_⟩
  unfold sSet at hp
  cases q : wComp it (own.map (·.2)) t tt m e S with
  | ok s e1 S1 => rw [q] at hp; exact fun v H' F' rho' r sb p k => hp _ H' F' rho' (r.setW k i) sb p
  | exc x e1 S1 => rw [q] at hp; exact hp σ
  | stuck => rw [q] at hp; exact hp
/-- [elt for tg in iter if .. for tg1 in iter1 if ..] -/
theorem semW_lc2 (c : Bx Z N sc fs k X W) (own : List (Str × Nat)) (vs1 : List Nat) (hok : blkC N sc scope own = true) (hi : PI X tg iter (rdI X.gb W ent it)) (hgr : TgR X.gb g t) (hsl : inAll t.slots (own.map (·.2)) = true)
    (hgr1 : TgR X.gb g1 t1) (hsl1 : inAll t1.slots vs1 = true) (hv : inAll vs1 (own.map (·.2)) = true)
    (hg : ∀ s H C cl fp, Bx Z N (relS scope sc) (fun x => scope.names.lookup x == some .cell) k (X.blk s H scope (compEnvC scope cl C X.env) fp) W0 →
      (PG (X.blk s H scope (compEnvC scope cl C X.env) fp) tg g ∧ Ifs X.gb (X.blk s H scope (compEnvC scope cl C X.env) fp) ifs tt tq ∧ ∀ ent, PE (X.blk s H scope (compEnvC scope cl C X.env) fp) elt (rdE X.gb W0 ent m)) ∧
        PG (X.blk s H scope (compEnvC scope cl C X.env) fp) tg1 g1 ∧ Ifs X.gb (X.blk s H scope (compEnvC scope cl C X.env) fp) ifs1 tt1 tq1 ∧ ∀ ent, PI (X.blk s H scope (compEnvC scope cl C X.env) fp) tg1 iter1 (rdI X.gb W0 ent it1))
    (hs : ∀ x, foldedSetIterable iter X.env x = pure x := by intro _; rfl) (hs1 : ∀ env x, foldedSetIterable iter1 env x = pure x := by intro _ _; rfl) :
    PE X (.ListComp elt [⟨tg, iter, ifs, 0⟩, ⟨tg1, iter1, ifs1, 0⟩] scope pos) (rdW X.gb W ent (wComp2 it (own.map (·.2)) t tt it1 vs1 t1 tt1 m)) := by
  have hh := fun (s : Shared) (H : Hp) (C : Addr) (cl : List (Str × Addr)) (fp : List Addr) => hg s H C cl fp (c.blk s H scope C cl fp)
  have htt : ∀ {σ H Q}, rdTx X.gb tt σ H Q → tq σ H Q := fun {σ H Q} q => (hh X.s_0 H 0 [] []).1.2.1.rd q
  have htt1 : ∀ {σ H Q}, rdTx X.gb tt1 σ H Q → tq1 σ H Q := fun {σ H Q} q => (hh X.s_0 H 0 [] []).2.2.1.rd q
  exact (pe_lc2 (te := rdEx X.gb m) (wi1 := rdIx X.gb it1) c.calm c.nd hi (blkOk_by (by rw [c.n, c.s]; exact hok)) (inAll_of hv) (fun s H C cl fp => (hh s H C cl fp).1.1) (fun s H C cl fp => (hh s H C cl fp).1.2.1.pts) (fun s H C cl fp => exI (hh s H C cl fp).2.2.2)
    (fun s H C cl fp => (hh s H C cl fp).2.1) (fun s H C cl fp => (hh s H C cl fp).2.2.1.pts) (fun s H C cl fp => exX (hh s H C cl fp).1.2.2) hs hs1).weak fun σ H Q h => wkTurn2 hgr hsl htt hgr1 hsl1 hv htt1 h
end
end TM
namespace TM
open PySem PySem.Spec L2
open PyProof.Rows hiding St

/-! calls of builtins -/
theorem callr_or {X : Cx} {f : Value} {r r' : List V → Hp → VK → Prop} (h : CallR X f r) (h' : CallR X f r') : CallR X f (fun xs H Q => r xs H Q ∨ r' xs H Q) := by
  intro pins s σ H xs us Q I rx q
  rcases q with q | q
  · exact h pins s σ H xs us Q I rx q
  · exact h' pins s σ H xs us Q I rx q
section
variable {X : Cx} {W : WX} {ent : Ent} {Z : En} {N : List Str} {sc : Scope} {fs : Str → Bool} {k : Nat} {pos p : Pos}
/-- a call of a builtin by operands -/
theorem sem_bi {x : Str} {e : Expr} {es : List Expr} {os : List Opr} {id : String} {r : List V → Hp → VK → Prop} {f : PF} (c : Bx Z N sc fs k X W) (hc : CallR X (.builtin id) r) (hf : PrimOk X.gb r f) (hg : gOk sc x = true) (hm : Z.mg x = none) (hv : bootBuiltins x = some (.builtin id))
    (ha : OpsE X W ent (e :: es) os) (hpl : (e :: es).all plainA = true := by rfl) : PE X (.Call (.Name x p) (e :: es) [] pos) (rdE X.gb W ent (bPrim f os)) := by
  rw [List.all_cons, Bool.and_eq_true] at hpl
  exact sem_callB hc hf (Gl.of c hg) (by rw [c.hm]; exact hm) hv (pa_ops ha) (gOk_name hg) (gOk_debug hg) (star_plain hpl.1 _ _) (back_plain hpl.2)
theorem sem_bt {x : Str} {e : Expr} {es : List Expr} {os : List Opr} {T : String} {r : List V → Hp → VK → Prop} {f : PF} (c : Bx Z N sc fs k X W) (hc : CallR X (.type T) r) (hf : PrimOk X.gb r f) (hg : gOk sc x = true) (hm : Z.mg x = none) (hv : bootBuiltins x = some (.type T))
    (ha : OpsE X W ent (e :: es) os) (hpl : (e :: es).all plainA = true := by rfl) : PE X (.Call (.Name x p) (e :: es) [] pos) (rdE X.gb W ent (bPrim f os)) := by
  rw [List.all_cons, Bool.and_eq_true] at hpl
  exact sem_callTy hc hf (Gl.of c hg) (by rw [c.hm]; exact hm) hv (pa_ops ha) (gOk_name hg) (gOk_debug hg) (star_plain hpl.1 _ _) (back_plain hpl.2)
theorem semW_bt {x : Str} {e : Expr} {es : List Expr} {os : List Opr} {T : String} {r : List V → Hp → VK → Prop} {f : PF} (c : Bx Z N sc fs k X W) (hc : CallR X (.type T) r) (hf : PrimFr X.gb r f) (hg : gOk sc x = true) (hm : Z.mg x = none) (hv : bootBuiltins x = some (.type T))
    (ha : OpsE X W ent (e :: es) os) (hpl : (e :: es).all plainA = true := by rfl) : PE X (.Call (.Name x p) (e :: es) [] pos) (rdW X.gb W ent (wPrim f os)) := by
  rw [List.all_cons, Bool.and_eq_true] at hpl
  exact semW_callTy hc hf (Gl.of c hg) (by rw [c.hm]; exact hm) hv (pa_ops ha) (gOk_name hg) (gOk_debug hg) (star_plain hpl.1 _ _) (back_plain hpl.2)
/-- a built-in type as a value -/
theorem xty {x : Str} {T : String} (c : Bx Z N sc fs k X W) (hg : gOk sc x = true) (hm : Z.mg x = none) (hv : bootBuiltins x = some (.type T)) : PE X (.Name x pos) (rdE X.gb W ent (bC (.ty T))) :=
  sem_const (pe_bltn (v := .ty T) (Gl.of c hg) (by rw [c.hm]; exact hm) hv rfl (gOk_name hg) (gOk_debug hg)) fun _ _ => .ty T
end

/-! len -/
def fLen : PF
  | [.str x] => if x.length ≤ sizeLine then some (.int x.length) else none
  | [.lst ds] => some (.int ds.length)
  | [.tup ds] => some (.int ds.length)
  | [.dct ks _] => some (.int ks.length)
  | _ => none
def rLenA (K : PySem.W.Frag) : List V → Hp → VK → Prop := fun xs H Q => (∃ x n, xs = [x] ∧ LenV K x H n ∧ Q (.int n) H) ∨ ∃ a kvs, xs = [V.ref a] ∧ H a = some (.dK kvs) ∧ Q (.int kvs.length) H
theorem c_len {X : Cx} : CallR X (.builtin "len") (rLenA X.K) := callr_or call_len call_lenD
theorem ok_len {G : Gb} : PrimOk G (rLenA G.K) fLen := by
  intro rho F H vs ds d Q s hr hf q
  unfold fLen at hf
  split at hf
  · split at hf
    · rename_i hz
      cases hf
      obtain ⟨v, rfl, h1⟩ := repBL1 hr
      cases repB_str h1
      exact .inl ⟨_, _, rfl, ⟨hz, rfl⟩, q _ H F (Grow.refl s) (.int _)⟩
    · cases hf
  · cases hf
    obtain ⟨v, rfl, h1⟩ := repBL1 hr
    obtain ⟨a, xs, rfl, t, z, l⟩ := repB_lst s h1
    exact .inl ⟨_, _, rfl, .inl ⟨xs, t, rfl⟩, by rw [l.length]; exact q _ H F (Grow.refl s) (.int _)⟩
  · cases hf
    obtain ⟨v, rfl, h1⟩ := repBL1 hr
    obtain ⟨a, xs, rfl, t, z, l⟩ := repB_tup s h1
    exact .inl ⟨_, _, rfl, .inr ⟨xs, t, rfl⟩, by rw [l.length]; exact q _ H F (Grow.refl s) (.int _)⟩
  · cases hf
    obtain ⟨v, rfl, h1⟩ := repBL1 hr
    obtain ⟨a, xs, rfl, t, e, l⟩ := repB_dct s h1
    refine .inr ⟨_, _, rfl, t, q _ H F (Grow.refl s) ?_⟩
    rw [← e, List.length_map]
    exact .int _
  · cases hf

/-! max, min of two ints -/
def fMax : PF
  | [.int i, .int j] => some (.int (if j > i then j else i))
  | _ => none
def fMin : PF
  | [.int i, .int j] => some (.int (if j < i then j else i))
  | _ => none
theorem ok_max {G : Gb} : PrimOk G (fun xs H Q => ∃ i j, xs = [.int i, .int j] ∧ Q (.int (if j > i then j else i)) H) fMax := by
  intro rho F H vs ds d Q s hr hf q
  unfold fMax at hf
  split at hf
  · cases hf
    obtain ⟨v, w, rfl, h1, h2⟩ := repBL2 hr
    cases repB_int h1; cases repB_int h2
    exact ⟨_, _, rfl, q _ H F (Grow.refl s) (.int _)⟩
  · cases hf
theorem ok_min {G : Gb} : PrimOk G (fun xs H Q => ∃ i j, xs = [.int i, .int j] ∧ Q (.int (if j < i then j else i)) H) fMin := by
  intro rho F H vs ds d Q s hr hf q
  unfold fMin at hf
  split at hf
  · cases hf
    obtain ⟨v, w, rfl, h1, h2⟩ := repBL2 hr
    cases repB_int h1; cases repB_int h2
    exact ⟨_, _, rfl, q _ H F (Grow.refl s) (.int _)⟩
  · cases hf

/-! tuple(..), list(..) -/
def fTuple : PF
  | [.lst ds] => some (.tup ds)
  | [.tup ds] => some (.tup ds)
  | _ => none
theorem ok_tuple {G : Gb} : PrimOk G (fun xs H Q => ∃ p ys, xs = [.ref p] ∧ ((SqL G.K H p ys ∧ ∀ l, H l = none → Q (.ref l) (upd H l (.tup ys))) ∨ (SqT G.K H p ys ∧ Q (.ref p) H))) fTuple := by
  intro rho F H vs ds d Q s hr hf q
  unfold fTuple at hf
  split at hf
  · cases hf
    obtain ⟨v, rfl, h1⟩ := repBL1 hr
    obtain ⟨a, xs, rfl, t, z, l⟩ := repB_lst s h1
    refine ⟨a, xs, rfl, .inl ⟨t, fun p hp => ?_⟩⟩
    have g := Grow.alloc (o := .tup xs) s hp
    exact q _ _ _ g (.tup (.of upd_same) (fun _ => upd_same) z (l.mono (g.sub s) (Pre.refl _)))
  · cases hf
    obtain ⟨v, rfl, h1⟩ := repBL1 hr
    rcases h1 with h1 | ⟨a, t, rfl, ho, et⟩
    · cases h1 with
      | @tup a xs _ t1 t3 z t2 => exact ⟨a, xs, rfl, .inr ⟨sqT_mono s t1, q _ H F (Grow.refl s) (.tup t1 t3 z t2)⟩⟩
    · cases t <;> first | exact ho.elim | cases et
  · cases hf
def fList : PF
  | [.lst ds] => some (.lst ds)
  | [.tup ds] => some (.lst ds)
  | _ => none
theorem fr_list {G : Gb} : PrimFr G (fun xs H Q => ∃ p ys, xs = [.ref p] ∧ (SqL G.K H p ys ∨ SqT G.K H p ys) ∧ ∀ l, H l = none → Q (.ref l) (upd H l (.lst ys))) fList := by
  intro rho F H vs ds d Q s hr hf q
  unfold fList at hf
  split at hf
  · cases hf
    obtain ⟨v, rfl, h1⟩ := repBL1 hr
    obtain ⟨a, xs, rfl, t, z, l⟩ := repB_lst s h1
    exact ⟨a, xs, rfl, .inl t, fun p hp => q p xs H F (Grow.refl s) hp z l⟩
  · cases hf
    obtain ⟨v, rfl, h1⟩ := repBL1 hr
    obtain ⟨a, xs, rfl, t, z, l⟩ := repB_tup s h1
    exact ⟨a, xs, rfl, .inr t, fun p hp => q p xs H F (Grow.refl s) hp z l⟩
  · cases hf

/-! isinstance -/
theorem ty_sqL {K : PySem.W.Frag} {H : Hp} {a : Addr} {xs : List V} (h : SqL K H a xs) : TyX K H (.ref a) (.type "list") := by
  rcases h with (h | ⟨o, h⟩) | ⟨o, its, n, h1, h2, _⟩
  · exact .base (.lst h)
  · exact .base (.frz h)
  · exact .kList h1 h2
theorem ty_sqT {K : PySem.W.Frag} {H : Hp} {a : Addr} {xs : List V} (h : SqT K H a xs) : TyX K H (.ref a) (.type "tuple") := by
  rcases h with (h | ⟨o, h⟩) | ⟨o, its, n, h1, h2, _⟩
  · exact .base (.tup h)
  · exact .fTuple h
  · exact .kTuple h1 h2
def D.ty? : D → Option String
  | .non => some "NoneType" | .bl _ => some "bool" | .int _ => some "int" | .str _ => some "str"
  | .tup _ => some "tuple" | .lst _ => some "list" | .dct _ _ => some "dict" | .dctt _ _ => some "dict"
  | _ => none
def fIsi : PF
  | [d, .ty c] => match d.ty? with
    | some t => (kitB t c).map .bl
    | none => none
  | _ => none
theorem ok_isi {G : Gb} : PrimOk G (rIsi G.K) fIsi := by
  intro rho F H vs ds d Q s hr hf q
  unfold fIsi at hf
  split at hf
  · rename_i d0 c
    obtain ⟨v, w, rfl, h1, h2⟩ := repBL2 hr
    cases repB_ty h2
    split at hf
    · rename_i t ht
      cases hk : kitB t c with
      | none => rw [hk] at hf; cases hf
      | some b =>
        rw [hk] at hf
        cases hf
        refine ⟨v, .ty c, .type t, .type c, b, rfl, .ty c, ?_, kit_ty hk, q _ H F (Grow.refl s) (.bl b)⟩
        unfold D.ty? at ht
        split at ht <;> cases ht
        · cases repB_non h1; exact .base .non
        · cases repB_bl h1; exact .base (.bl _)
        · cases repB_int h1; exact .base (.int _)
        · cases repB_str h1; exact .base (.str _)
        · obtain ⟨a, xs, rfl, t, _, _⟩ := repB_tup s h1; exact ty_sqT t
        · obtain ⟨a, xs, rfl, t, _, _⟩ := repB_lst s h1; exact ty_sqL t
        · obtain ⟨a, xs, rfl, t, _, _⟩ := repB_dct s h1; exact .base (.dK t)
        · obtain ⟨a, xs, rfl, t, _, _⟩ := repB_dctt s h1; exact .base (.dT t)
    · cases hf
  · cases hf

/-! all, any of a list of truths -/
def blsD : List D → Option (List Bool)
  | [] => some []
  | .bl b :: ds => (blsD ds).map fun bs => b :: bs
  | _ :: _ => none
theorem blsD_rep {G : Gb} {rho : List Addr} {F : Hp} : ∀ {vs : List V} {ds : List D} {bs : List Bool}, RepL G rho F vs ds → blsD ds = some bs → vs = bs.map V.bl
  | _, _, _, .nil, h => by cases h; rfl
  | _, _, _, .cons (d := d) r l, h => by
    cases r with
    | bl b =>
      unfold blsD at h
      cases e : blsD _ with
      | none => rw [e] at h; cases h
      | some bs => rw [e] at h; cases h; rw [blsD_rep l e]; rfl
    | _ => unfold blsD at h; cases h
def fAll : PF
  | [.lst ds] => (blsD ds).map fun bs => .bl (bs.all id)
  | _ => none
def fAny : PF
  | [.lst ds] => (blsD ds).map fun bs => .bl (bs.any id)
  | _ => none
theorem ok_all {G : Gb} : PrimOk G (rAll G.K) fAll := by
  intro rho F H vs ds d Q s hr hf q
  unfold fAll at hf
  split at hf
  · obtain ⟨v, rfl, h1⟩ := repBL1 hr
    obtain ⟨a, xs, rfl, t, z, l⟩ := repB_lst s h1
    cases e : blsD _ with
    | none => rw [e] at hf; cases hf
    | some bs =>
      rw [e] at hf; cases hf
      have := blsD_rep l e
      subst this
      exact ⟨a, bs, rfl, t, q _ H F (Grow.refl s) (.bl _)⟩
  · cases hf
theorem ok_any {G : Gb} : PrimOk G (rAny G.K) fAny := by
  intro rho F H vs ds d Q s hr hf q
  unfold fAny at hf
  split at hf
  · obtain ⟨v, rfl, h1⟩ := repBL1 hr
    obtain ⟨a, xs, rfl, t, z, l⟩ := repB_lst s h1
    cases e : blsD _ with
    | none => rw [e] at hf; cases hf
    | some bs =>
      rw [e] at hf; cases hf
      have := blsD_rep l e
      subst this
      exact ⟨a, bs, rfl, t, q _ H F (Grow.refl s) (.bl _)⟩
  · cases hf

/-! repr of data -/
def rRepr (X : Cx) : List V → Hp → VK → Prop := fun xs H Q => ∃ (a : Addr) (d : PyData), xs = [.ref a] ∧ Dp X.K H (.ref a) d ∧ d.showable = true ∧ d.hasDict = false ∧ X.A.units + (d.depth + 1) < cLine ∧ d.shown.length ≤ sizeLine ∧ Q (.str d.shown) H
theorem c_repr {X : Cx} (hg : X.A.guards = some []) : CallR X (.builtin "repr") (rRepr X) := by
  intro pins s σ H xs us Q I r h
  obtain ⟨a, d, rfl, hd, hs, hn, hu, hz, q⟩ := h
  cases r with
  | cons r1 t =>
    cases t
    obtain ⟨as, hr⟩ := hd.reads I d _ _ r1
    cases (show _ = Value.ref a from r1)
    exact repr_of_reads' hr hs (PyData.noDict_hsm hn) hg hu (fun _ _ e => e) (fun h' u tk hk => ⟨.str d.shown, H, I.turnedL (ch := []) (fun b o _ e => hk b o e) (fun b hb => nomatch hb), ⟨u, rfl⟩, q⟩) hz
def D.isSeq : D → Bool
  | .lst _ => true
  | .tup _ => true
  | _ => false
def D.shows (d : D) : Bool := d.isSeq && (d.dat && (decide (d.dep ≤ 64) && (d.py.showable && decide (d.py.shown.length ≤ sizeLine))))
def fRepr : PF
  | [d] => if d.shows = true then some (.str d.py.shown) else none
  | _ => none
theorem ok_repr {X : Cx} (hu : X.A.units + 66 < cLine) : PrimOk X.gb (rRepr X) fRepr := by
  intro rho F H vs ds d Q s hr hf q
  unfold fRepr at hf
  split at hf
  · rename_i d0
    split at hf
    · rename_i h
      cases hf
      obtain ⟨v, rfl, h1⟩ := repBL1 hr
      unfold D.shows at h
      simp only [Bool.and_eq_true, decide_eq_true_eq] at h
      obtain ⟨k1, k2, k3, k4, k5⟩ := h
      have hd := h1.dp s k2
      obtain ⟨a, rfl⟩ : ∃ a, v = .ref a := by
        unfold D.isSeq at k1
        split at k1
        · obtain ⟨a, _, rfl, _⟩ := repB_lst s h1; exact ⟨a, rfl⟩
        · obtain ⟨a, _, rfl, _⟩ := repB_tup s h1; exact ⟨a, rfl⟩
        · cases k1
      refine ⟨a, d0.py, rfl, hd, k4, PyData.hasDict_of_canLay _ (D.canLay d0 k2), ?_, k5, q _ H F (Grow.refl s) (.str _)⟩
      have := D.depth d0
      omega
    · cases hf
  · cases hf

/-! methods of texts -/
section
variable {X : Cx} {W : WX} {ent : Ent}
theorem tO_imp {G : Gb} {o : Opr} {σ : L2.St} {H : Hp} {Q Q' : VK} (h : tO G W ent o σ H Q) (k : ∀ v H, Q v H → Q' v H) : tO G W ent o σ H Q' := by
  cases o with
  | sl i => obtain ⟨v, h1, h2⟩ := h; exact ⟨v, h1, k _ _ h2⟩
  | ex m =>
    obtain ⟨e, S, F, rho, hR, hp⟩ := h
    refine ⟨e, S, F, rho, hR, ?_⟩
    revert hp
    cases m e S with
    | ok d e1 S1 => exact fun hp v H' F' rho' r s p w => k _ _ (hp v H' F' rho' r s p w)
    | exc x e1 S1 => exact fun hp => hp
    | stuck => exact fun hp => hp
/-- the value is seen to be of a form as soon as it is there -/
def mChk (f : D → Bool) (m : Ex) : Ex := fun e S => (m e S).bind fun d e S => if f d = true then .ok d e S else .stuck
theorem rdE_chk {G : Gb} {f : D → Bool} {m : Ex} {σ : L2.St} {H : Hp} {Q : VK} (h : rdE G W ent (mChk f m) σ H Q) : rdE G W ent m σ H (fun v H' => (∃ rho F d, Sub F H' ∧ Rep G rho F v d ∧ f d = true) ∧ Q v H') := by
  obtain ⟨e, S, F, rho, hR, hp⟩ := h
  refine ⟨e, S, F, rho, hR, ?_⟩
  unfold mChk at hp
  cases q : m e S with
  | ok d e1 S1 =>
    rw [q] at hp
    have hp : postE G W ent σ F rho Q (if f d = true then .ok d e1 S1 else .stuck) := hp
    split at hp
    · rename_i hd
      exact fun v H' F' rho' r s p w => ⟨⟨rho', F', d, r.sub, w, hd⟩, hp v H' F' rho' r s p w⟩
    · exact hp.elim
  | exc x e1 S1 => rw [q] at hp; exact hp
  | stuck => rw [q] at hp; exact hp
theorem repStr {G : Gb} {rho : List Addr} {F : Hp} {v : V} {d : D} (h : Rep G rho F v d) (e : d.isStr = true) : ∃ x, v = .str x := by
  cases h <;> first | exact ⟨_, rfl⟩ | cases e
theorem repInt {G : Gb} {rho : List Addr} {F : Hp} {v : V} {d : D} (h : Rep G rho F v d) (e : d.isInt = true) : ∃ x, v = .int x := by
  cases h <;> first | exact ⟨_, rfl⟩ | cases e
/-- a text's method, with arguments -/
theorem sem_sm {o e : Expr} {es : List Expr} {m : Ex} {os : List Opr} {name : Str} {id : String} {r : V → List V → Hp → VK → Prop} {f : PF} {apos cpos : Pos} (slot : PySem.Slot "str" name id) (hty : typeOf (.builtin id) = pure (.type "method_descriptor")) (hm : MtR X id r)
    (hf : PrimOk X.gb (fun vs H Q => match vs with | v :: vs => r v vs H Q | [] => False) f) (ho : PE X o (rdE X.gb W ent m)) (ha : OpsE X W ent (e :: es) os) (hpl : (e :: es).all plainA = true := by rfl)
    (hbase : attributeBase o name X.env (eval o X.env) = eval o X.env := by rfl)
    (hfew : ((backTo cpos (starEach (e :: es) X.env)).all (fun x => !x.1) && (backToKw cpos (keywordEach [] X.env)).all (fun x => x.1.isSome)
      && decide ((e :: es).length + ([] : List Keyword).length + (if ([] : List Keyword).isEmpty then 0 else 1) < 30)) = true := by rfl)
    (hline : (apos.endLine == cpos.line) = true := by rfl) : PE X (.Call (.Attribute o name apos) (e :: es) [] cpos) (rdE X.gb W ent (bPrim f (.ex (mChk D.isStr m) :: os))) := by
  rw [List.all_cons, Bool.and_eq_true] at hpl
  refine (pe_bm PySem.F.plainAttrs_str slot hty hm ho (pa_ops ha) hbase hfew hline (star_plain hpl.1 _ _) (back_plain hpl.2)).weak fun σ H Q h => ?_
  have h2 := rdE_chk (prim_of (os := .ex (mChk D.isStr m) :: os) hf h)
  refine tO_imp (o := .ex m) h2 fun v H' q => ?_
  obtain ⟨⟨rho, F, d, _, rp, hd⟩, q⟩ := q
  obtain ⟨x, rfl⟩ := repStr rp hd
  exact ⟨rfl, q⟩
theorem sem_sm0 {o : Expr} {m : Ex} {name : Str} {id : String} {r : V → List V → Hp → VK → Prop} {f : PF} {apos cpos : Pos} (slot : PySem.Slot "str" name id) (hty : typeOf (.builtin id) = pure (.type "method_descriptor")) (hm : MtR X id r)
    (hf : PrimOk X.gb (fun vs H Q => match vs with | v :: vs => r v vs H Q | [] => False) f) (ho : PE X o (rdE X.gb W ent m))
    (hbase : attributeBase o name X.env (eval o X.env) = eval o X.env := by rfl)
    (hline : (apos.endLine == cpos.line) = true := by rfl) : PE X (.Call (.Attribute o name apos) [] [] cpos) (rdE X.gb W ent (bPrim f [.ex (mChk D.isStr m)])) := by
  refine (pe_bm0 PySem.F.plainAttrs_str slot hty hm ho hbase hline).weak fun σ H Q h => ?_
  have h2 := rdE_chk (prim_of (os := [.ex (mChk D.isStr m)]) hf h)
  refine tO_imp (o := .ex m) h2 fun v H' q => ?_
  obtain ⟨⟨rho, F, d, _, rp, hd⟩, q⟩ := q
  obtain ⟨x, rfl⟩ := repStr rp hd
  exact ⟨rfl, q⟩
end
def strsD : List D → Option (List Str)
  | [] => some []
  | .str b :: ds => (strsD ds).map fun bs => b :: bs
  | _ :: _ => none
theorem strsD_rep {G : Gb} {rho : List Addr} {F : Hp} : ∀ {vs : List V} {ds : List D} {bs : List Str}, RepL G rho F vs ds → strsD ds = some bs → vs = bs.map V.str
  | _, _, _, .nil, h => by cases h; rfl
  | _, _, _, .cons (d := d) r l, h => by
    cases r with
    | str b =>
      unfold strsD at h
      cases e : strsD _ with
      | none => rw [e] at h; cases h
      | some bs => rw [e] at h; cases h; rw [strsD_rep l e]; rfl
    | _ => unfold strsD at h; cases h
def joinD (a : Str) (ds : List D) : Option D := match strsD ds with
  | some ys => if (ys.map (·.length)).sum + ys.length * a.length ≤ 16777216 then some (.str (Txt.join a ys)) else none
  | none => none
def fJoin : PF
  | [.str a, .lst ds] => joinD a ds
  | [.str a, .tup ds] => joinD a ds
  | _ => none
def rJoinA (K : PySem.W.Frag) : V → List V → Hp → VK → Prop := fun x xs H Q => ∃ a p, ∃ ys : List Str, x = .str a ∧ xs = [.ref p] ∧ (SqL K H p (ys.map V.str) ∨ SqT K H p (ys.map V.str)) ∧
    (ys.map (·.length)).sum + ys.length * a.length ≤ 16777216 ∧ Q (.str (Txt.join a ys)) H
theorem ok_join {G : Gb} : PrimOk G (fun vs H Q => match vs with | v :: vs => rJoinA G.K v vs H Q | [] => False) fJoin := by
  have key : ∀ {rho F a ds d xs}, RepL G rho F xs ds → joinD a ds = some d → ∃ ys, xs = ys.map V.str ∧ (ys.map (·.length)).sum + ys.length * a.length ≤ 16777216 ∧ d = .str (Txt.join a ys) := by
    intro rho F a ds d xs l h
    unfold joinD at h
    split at h
    · rename_i ys e
      split at h
      · rename_i hz; cases h; exact ⟨ys, strsD_rep l e, hz, rfl⟩
      · cases h
    · cases h
  intro rho F H vs ds d Q s hr hf q
  unfold fJoin at hf
  split at hf
  · obtain ⟨v, w, rfl, h1, h2⟩ := repBL2 hr
    cases repB_str h1
    obtain ⟨a, xs, rfl, t, z, l⟩ := repB_lst s h2
    obtain ⟨ys, rfl, hz, rfl⟩ := key l hf
    exact ⟨_, a, ys, rfl, rfl, .inl t, hz, q _ H F (Grow.refl s) (.str _)⟩
  · obtain ⟨v, w, rfl, h1, h2⟩ := repBL2 hr
    cases repB_str h1
    obtain ⟨a, xs, rfl, t, z, l⟩ := repB_tup s h2
    obtain ⟨ys, rfl, hz, rfl⟩ := key l hf
    exact ⟨_, a, ys, rfl, rfl, .inr t, hz, q _ H F (Grow.refl s) (.str _)⟩
  · cases hf

/-! slices -/
def cutL {α : Type} (xs : List α) (lo hi : Option Int) : List α := (xs.drop (HT.sIx xs.length 0 lo)).take (HT.sIx xs.length xs.length hi - HT.sIx xs.length 0 lo)
def cutD (d : D) (lo hi : Option Int) : Option D := match d with
  | .str z => if z.length ≤ sizeLine then some (.str (cutS z lo hi)) else none
  | .tup ds => some (.tup (cutL ds lo hi))
  | .lst ds => some (.lst (cutL ds lo hi))
  | _ => none
theorem RepL.cut {G : Gb} {rho : List Addr} {F : Hp} {vs : List V} {ds : List D} (l : RepL G rho F vs ds) (lo hi : Option Int) : RepL G rho F (cutV vs lo hi) (cutL ds lo hi) := by
  unfold cutV cutL
  rw [l.length]
  exact (l.drop _).take _
def rSlAll (K : PySem.W.Frag) : V → Option Int → Option Int → Hp → VK → Prop := fun x lo hi H Q => (rSlS x lo hi H Q ∨ rSlA K x lo hi H Q) ∨ rSlL K x lo hi H Q
theorem sl_all {X : Cx} : L2.SlR X (rSlAll X.K) := L2.SlR.or (L2.SlR.or sl_str sl_tupA) sl_list
theorem cut_fr {G : Gb} {rho : List Addr} {F H : Hp} {v : V} {d d' : D} {lo hi : Option Int} {Q : VK} (s : Sub F H) (h : RepB G rho F H v d) (e : cutD d lo hi = some d') (q : Cont G rho F H Q d') : rSlAll G.K v lo hi H Q := by
  unfold cutD at e
  split at e
  · split at e
    · rename_i hz
      cases e
      cases repB_str h
      exact .inl (.inl ⟨_, rfl, hz, q _ H F (Grow.refl s) (.str _)⟩)
    · cases e
  · rename_i ds
    cases e
    rcases h with h1 | ⟨a, t, rfl, ho, et⟩
    · cases h1 with
      | @tup a xs _ t1 t3 z l =>
        refine .inl (.inr ⟨a, xs, rfl, sqT_mono s t1, fun hw => ?_, fun hw p hp => ?_⟩)
        · have : cutL ds lo hi = ds := by
            unfold cutL
            rw [← l.length, hw.1, hw.2, l.length, List.drop_zero, Nat.sub_zero, List.take_length]
          rw [this] at q
          exact q _ H F (Grow.refl s) (.tup t1 t3 z l)
        · have g := Grow.alloc (o := .tup (cutV xs lo hi)) s hp
          exact q _ _ _ g (.tup (.of upd_same) (fun _ => upd_same) (Nat.le_trans (cutV_length xs lo hi) z) ((l.cut lo hi).mono (g.sub s) (Pre.refl _)))
    · cases t <;> first | exact ho.elim | cases et
  · cases e
    obtain ⟨a, xs, rfl, t, z, l⟩ := repB_lst s h
    exact .inr ⟨a, xs, rfl, t, fun p hp => q p (cutV xs lo hi) H F (Grow.refl s) hp (Nat.le_trans (cutV_length xs lo hi) z) (l.cut lo hi)⟩
  · cases e
def fSl11 : PF
  | [d, .int i, .int j] => cutD d (some i) (some j)
  | _ => none
def fSl10 : PF
  | [d, .int i] => cutD d (some i) none
  | _ => none
def fSl01 : PF
  | [d, .int j] => cutD d none (some j)
  | _ => none
def mInt (m : Ex) : Opr := .ex (mChk D.isInt m)
section
variable {X : Cx} {W : WX} {ent : Ent} {o a b : Expr} {oo : Opr} {ma mb : Ex} {pos p2 : Pos}
def rSl11 (K : PySem.W.Frag) : List V → Hp → VK → Prop := fun vs H Q => match vs with
  | [x, y, z] => ∀ i j, y = .int i → z = .int j → rSlAll K x (some i) (some j) H Q
  | _ => False
def rSl10 (K : PySem.W.Frag) : List V → Hp → VK → Prop := fun vs H Q => match vs with
  | [x, y] => ∀ i, y = .int i → rSlAll K x (some i) none H Q
  | _ => False
def rSl01 (K : PySem.W.Frag) : List V → Hp → VK → Prop := fun vs H Q => match vs with
  | [x, y] => ∀ i, y = .int i → rSlAll K x none (some i) H Q
  | _ => False
theorem fr_sl11 {G : Gb} : PrimFr G (rSl11 G.K) fSl11 := by
  intro rho F H vs ds d Q s hr hf q
  unfold fSl11 at hf
  split at hf
  · obtain ⟨x, y, z, rfl, h1, h2, h3⟩ := repBL3 hr
    cases repB_int h2; cases repB_int h3
    intro i j e1 e2
    cases e1; cases e2
    exact cut_fr s h1 hf q
  · cases hf
theorem fr_sl10 {G : Gb} : PrimFr G (rSl10 G.K) fSl10 := by
  intro rho F H vs ds d Q s hr hf q
  unfold fSl10 at hf
  split at hf
  · obtain ⟨x, y, rfl, h1, h2⟩ := repBL2 hr
    cases repB_int h2
    intro i e1
    cases e1
    exact cut_fr s h1 hf q
  · cases hf
theorem fr_sl01 {G : Gb} : PrimFr G (rSl01 G.K) fSl01 := by
  intro rho F H vs ds d Q s hr hf q
  unfold fSl01 at hf
  split at hf
  · obtain ⟨x, y, rfl, h1, h2⟩ := repBL2 hr
    cases repB_int h2
    intro i e1
    cases e1
    exact cut_fr s h1 hf q
  · cases hf
theorem part_of {G : Gb} {m : Ex} {σ : L2.St} {H : Hp} {Q : Option Int → Hp → Prop} (h : tO G W ent (mInt m) σ H (fun y H' => ∀ i, y = .int i → Q (some i) H')) : tPart (rdE G W ent m) σ H Q := by
  refine tO_imp (o := .ex m) (rdE_chk h) fun v H' q => ?_
  obtain ⟨⟨rho, F, d, _, rp, hd⟩, q⟩ := q
  obtain ⟨x, rfl⟩ := repInt rp hd
  exact ⟨x, rfl, q x rfl⟩
theorem tSl11 {G : Gb} {σ : L2.St} {H : Hp} {Q : VK} (h : tOs G W ent [oo, mInt ma, mInt mb] σ H (fun vs H' => rSl11 G.K vs H' Q)) : tSl (rSlAll G.K) (tO G W ent oo) (tPart (rdE G W ent ma)) (tPart (rdE G W ent mb)) σ H Q := by
  refine tO_imp h fun x H1 h1 => part_of (tO_imp h1 fun y H2 h2 i hi => part_of (tO_imp h2 fun z H3 h3 j hj => h3 i j hi hj))
theorem tSl10 {G : Gb} {σ : L2.St} {H : Hp} {Q : VK} (h : tOs G W ent [oo, mInt ma] σ H (fun vs H' => rSl10 G.K vs H' Q)) : tSl (rSlAll G.K) (tO G W ent oo) (tPart (rdE G W ent ma)) tNoPart σ H Q := by
  refine tO_imp h fun x H1 h1 => part_of (tO_imp h1 fun y H2 h2 i hi => h2 i hi)
theorem tSl01 {G : Gb} {σ : L2.St} {H : Hp} {Q : VK} (h : tOs G W ent [oo, mInt ma] σ H (fun vs H' => rSl01 G.K vs H' Q)) : tSl (rSlAll G.K) (tO G W ent oo) tNoPart (tPart (rdE G W ent ma)) σ H Q := by
  refine tO_imp h fun x H1 h1 => ?_
  unfold tNoPart
  refine part_of (tO_imp h1 fun y H2 h2 i hi => h2 i hi)
theorem sem_sl11 (ho : OpE X W ent o oo) (ha : PE X a (rdE X.gb W ent ma)) (hb : PE X b (rdE X.gb W ent mb)) : PE X (.Subscript o (.Slice (some a) (some b) none p2) pos) (rdE X.gb W ent (bPrim fSl11 [oo, mInt ma, mInt mb])) :=
  (pe_slice sl_all ho (po_some ha) (po_some hb)).weak fun σ H Q h => tSl11 (prim_of fr_sl11.ok h)
theorem sem_sl10 (ho : OpE X W ent o oo) (ha : PE X a (rdE X.gb W ent ma)) : PE X (.Subscript o (.Slice (some a) none none p2) pos) (rdE X.gb W ent (bPrim fSl10 [oo, mInt ma])) :=
  (pe_slice sl_all ho (po_some ha) po_none).weak fun σ H Q h => tSl10 (prim_of fr_sl10.ok h)
theorem sem_sl01 (ho : OpE X W ent o oo) (ha : PE X a (rdE X.gb W ent ma)) : PE X (.Subscript o (.Slice none (some a) none p2) pos) (rdE X.gb W ent (bPrim fSl01 [oo, mInt ma])) :=
  (pe_slice sl_all ho po_none (po_some ha)).weak fun σ H Q h => tSl01 (prim_of fr_sl01.ok h)
theorem semW_sl11 (ho : OpE X W ent o oo) (ha : PE X a (rdE X.gb W ent ma)) (hb : PE X b (rdE X.gb W ent mb)) : PE X (.Subscript o (.Slice (some a) (some b) none p2) pos) (rdW X.gb W ent (wPrim fSl11 [oo, mInt ma, mInt mb])) :=
  (pe_slice sl_all ho (po_some ha) (po_some hb)).weak fun σ H Q h => tSl11 (primW_of fr_sl11 h)
theorem semW_sl10 (ho : OpE X W ent o oo) (ha : PE X a (rdE X.gb W ent ma)) : PE X (.Subscript o (.Slice (some a) none none p2) pos) (rdW X.gb W ent (wPrim fSl10 [oo, mInt ma])) :=
  (pe_slice sl_all ho (po_some ha) po_none).weak fun σ H Q h => tSl10 (primW_of fr_sl10 h)
theorem semW_sl01 (ho : OpE X W ent o oo) (ha : PE X a (rdE X.gb W ent ma)) : PE X (.Subscript o (.Slice none (some a) none p2) pos) (rdW X.gb W ent (wPrim fSl01 [oo, mInt ma])) :=
  (pe_slice sl_all ho po_none (po_some ha)).weak fun σ H Q h => tSl01 (primW_of fr_sl01 h)
end
end TM
namespace TM
open PySem PySem.Spec L2
open PyProof.Rows hiding St

section
variable {G : Gb} {W : WX} {ent : Ent} {e : Env} {S : Sto} {σ : L2.St} {H F : Hp} {rho : List Addr}
/-- an owned object is changed -/
theorem R.upOwn (r : R G ent e S σ H F rho) {i : Nat} {s t : Slot} {a : Addr} {o : HO} (hi : e[i]? = some (some s)) (hs : s.isVal = false) (ha : σ[i]? = some (some (.ref a))) (ho : OwnAt G rho F (upd H a o) a t) (ht : t.isVal = false) :
    R G ent (e.set i (some t)) S σ (upd H a o) F rho := by
  obtain ⟨b, q1, q2, q3, q4, q5⟩ := r.own i s hi hs
  rw [ha] at q1; cases q1
  have key : ∀ (j : Nat) (u : Slot), (e.set i (some t))[j]? = some (some u) → u.isVal = false → (j = i ∧ u = t) ∨ (j ≠ i ∧ e[j]? = some (some u)) := fun j u hj _ => by
    rcases get_set hj with ⟨h1, h2⟩ | ⟨h1, h2⟩
    · cases h2; exact .inl ⟨h1.symm, rfl⟩
    · exact .inr ⟨fun z => h1 z.symm, h2⟩
  have orig : ∀ (j : Nat) (u : Slot), (e.set i (some t))[j]? = some (some u) → u.isVal = false → ∃ u', e[j]? = some (some u') ∧ u'.isVal = false := fun j u hj hu => by
    rcases key j u hj hu with ⟨rfl, _⟩ | ⟨_, h⟩
    · exact ⟨s, hi, hs⟩
    · exact ⟨u, h, hu⟩
  refine ⟨by rw [List.length_set]; exact r.len, fun b u h => ?_, fun j d hj => ?_, fun j u hj hu => ?_, fun j l u v c hj hu hl hv h1 h2 => ?_, r.slen, fun n u b h1 h2 => ?_, r.nod, fun b u h => ?_, r.sub0, r.pre0⟩
  · rw [upd_ne (fun z => by subst z; rw [q3] at h; cases h)]; exact r.sub b u h
  · rcases get_set hj with ⟨h1, h2⟩ | ⟨h1, h2⟩
    · cases h2; cases ht
    · exact r.val j d h2
  · rcases key j u hj hu with ⟨rfl, rfl⟩ | ⟨hne, h⟩
    · exact ⟨a, ha, ho, q3, q4, q5⟩
    · obtain ⟨b, k1, k2, k3, k4, k5⟩ := r.own j u h hu
      refine ⟨b, k1, k2.mono (Sub.refl _) (Pre.refl _) (upd_ne fun z => ?_), k3, k4, k5⟩
      subst z
      exact hne (r.sep j i u s b h hu hi hs k1 ha)
  · obtain ⟨u', k1, k2⟩ := orig j u hj hu
    obtain ⟨v', k3, k4⟩ := orig l v hl hv
    exact r.sep j l u' v' c k1 k2 k3 k4 h1 h2
  · obtain ⟨q, f⟩ := r.sto n u b h1 h2
    exact ⟨q.mono (Sub.refl _) (Pre.refl _) (upd_ne (fun z : b = a => q5 (by rw [← z]; exact List.mem_of_getElem? h2))), f⟩
  · obtain ⟨k1, k2, k3⟩ := r.keep b u h
    exact ⟨by rw [upd_ne (fun z : b = a => q4 u (by rw [← z]; exact h))]; exact k1, k2, k3⟩
/-- an object of the store is changed -/
theorem R.upSto (r : R G ent e S σ H F rho) {n : Nat} {u : Ob} {a : Addr} {o : HO} (hn : S[n]? = some u) (hr : rho[n]? = some a) (t : Ob) (ho : ObRep G rho F (upd H a o) a t) : R G ent e (S.set n t) σ (upd H a o) F rho := by
  obtain ⟨q, f⟩ := r.sto n u a hn hr
  have hm : a ∈ rho := List.mem_of_getElem? hr
  refine ⟨r.len, fun b u h => ?_, r.val, fun j u hj hu => ?_, r.sep, by rw [List.length_set]; exact r.slen, fun m u b h1 h2 => ?_, r.nod, fun b u h => ?_, r.sub0, r.pre0⟩
  · rw [upd_ne (fun z => by subst z; rw [f] at h; cases h)]; exact r.sub b u h
  · obtain ⟨b, k1, k2, k3, k4, k5⟩ := r.own j u hj hu
    exact ⟨b, k1, k2.mono (Sub.refl _) (Pre.refl _) (upd_ne fun z : b = a => k5 (by rw [z]; exact hm)), k3, k4, k5⟩
  · by_cases e1 : n = m
    · subst e1
      rw [hr] at h2; cases h2
      have hl : n < S.length := (List.getElem?_eq_some_iff.mp hn).1
      rw [List.getElem?_set_self hl] at h1
      cases h1
      exact ⟨ho, f⟩
    · rw [List.getElem?_set_ne e1] at h1
      obtain ⟨k1, k2⟩ := r.sto m u b h1 h2
      refine ⟨k1.mono (Sub.refl _) (Pre.refl _) (upd_ne fun z : b = a => ?_), k2⟩
      subst z
      have h3 : n < rho.length := (List.getElem?_eq_some_iff.mp hr).1
      exact e1 ((List.getElem?_inj h3 r.nod).mp (hr.trans h2.symm))
  · obtain ⟨k1, k2, k3⟩ := r.keep b u h
    exact ⟨by rw [upd_ne (fun z : b = a => k3 (by rw [z]; exact hm))]; exact k1, k2, k3⟩
/-- a new object of the store -/
theorem R.newS (r : R G ent e S σ H F rho) {p : Addr} {o : HO} (hf : F p = none) (hr : p ∉ rho) (h0 : ∀ o, ¬ ent.Pr p o) (hn : NoSlot e σ p) (t : Ob) (ho : ObRep G (rho ++ [p]) F (upd H p o) p t) : R G ent e (S ++ [t]) σ (upd H p o) F (rho ++ [p]) := by
  have r2 := r.poke (o := o) hf hr h0 hn
  have pr : Pre rho (rho ++ [p]) := Pre.snoc rho p
  refine ⟨r.len, r2.sub, fun i d h => ?_, fun i s h hs => ?_, r2.sep, by rw [List.length_append, List.length_append, r.slen]; rfl, fun m u b h1 h2 => ?_, ?_, fun b u h => ?_, r.sub0, r.pre0.trans pr⟩
  · obtain ⟨v, k1, k2⟩ := r2.val i d h
    exact ⟨v, k1, k2.mono (Sub.refl _) pr⟩
  · obtain ⟨b, k1, k2, k3, k4, k5⟩ := r2.own i s h hs
    refine ⟨b, k1, k2.mono (Sub.refl _) pr rfl, k3, k4, fun z => ?_⟩
    rcases List.mem_append.mp z with z | z
    · exact k5 z
    · rw [List.mem_singleton] at z; subst z
      exact hn i s h hs k1
  · by_cases hl : m < S.length
    · rw [List.getElem?_append_left hl] at h1
      rw [List.getElem?_append_left (by rw [← r.slen]; exact hl)] at h2
      obtain ⟨k1, k2⟩ := r2.sto m u b h1 h2
      exact ⟨k1.mono (Sub.refl _) pr rfl, k2⟩
    · have hm : m = S.length := by
        have := (List.getElem?_eq_some_iff.mp h1).1
        rw [List.length_append] at this
        simp at this
        omega
      subst hm
      rw [List.getElem?_append_right (Nat.le_refl _), Nat.sub_self] at h1
      rw [r.slen, List.getElem?_append_right (Nat.le_refl _), Nat.sub_self] at h2
      cases h1; cases h2
      exact ⟨ho, hf⟩
  · rw [List.nodup_append]
    exact ⟨r.nod, by simp, fun a ha b hb => by rw [List.mem_singleton] at hb; subst hb; intro z; subst z; exact hr ha⟩
  · obtain ⟨k1, k2, k3⟩ := r2.keep b u h
    refine ⟨k1, k2, fun z => ?_⟩
    rcases List.mem_append.mp z with z | z
    · exact k3 z
    · rw [List.mem_singleton] at z; subst z
      exact h0 u h
end

/-! methods of owned lists -/
abbrev MF := List D → List D → Option (List D × D)
def mMut (i : Nat) (f : MF) (ms : List Ex) : Ex := fun e S => match e[i]? with
  | some (some (.own _)) => (evX ms e S).bind fun ds e S => match e[i]? with
    | some (some (.own xs)) => match f xs ds with
      | some (ys, d) => if ys.length ≤ sizeLine then .ok d (e.set i (some (.own ys))) S else .stuck
      | none => .stuck
    | _ => .stuck
  | _ => .stuck
def MutOk (G : Gb) (r : V → List V → Hp → VK → Prop) (f : MF) : Prop := ∀ {rho : List Addr} {F H : Hp} {a : Addr} {vs as : List V} {xs ds ys : List D} {d : D} {Q : VK}, Sub F H → H a = some (.lst vs) → RepL G rho F vs xs → RepL G rho F as ds → f xs ds = some (ys, d) → ys.length ≤ sizeLine →
  (∀ v ws, RepL G rho F ws ys → Rep G rho F v d → Q v (upd H a (.lst ws))) → r (.ref a) as H Q
section
variable {X : Cx} {W : WX} {ent : Ent} {Z : En} {N : List Str} {sc : Scope} {fs : Str → Bool} {k : Nat}
theorem mut_core {G : Gb} {i : Nat} {f : MF} {ms : List Ex} {r : V → List V → Hp → VK → Prop} {σ : L2.St} {H : Hp} {Q : VK} (hf : MutOk G r f) (h : rdE G W ent (mMut i f ms) σ H Q) :
    ∃ v, σ[i]? = some (some v) ∧ tyV G.K "list" v H ∧ tOs G W ent (ms.map .ex) σ H fun xs H2 => r v xs H2 Q := by
  obtain ⟨e, S, F, rho, hR, hp⟩ := h
  unfold mMut at hp
  split at hp
  · rename_i d0 hi
    obtain ⟨a, q1, ⟨xs0, hx, _, _⟩, _⟩ := hR.own i _ hi rfl
    refine ⟨.ref a, q1, .inl ⟨rfl, xs0, .of hx⟩, tXs_of hR ?_⟩
    cases q : evX ms e S with
    | ok ds e1 S1 =>
      rw [q] at hp
      intro vs H' F' rho' r' s p l
      have hp : postE G W ent σ F rho Q (match e1[i]? with
        | some (some (.own xs)) => match f xs ds with
          | some (ys, d) => if ys.length ≤ sizeLine then .ok d (e1.set i (some (.own ys))) S1 else .stuck
          | none => .stuck
        | _ => .stuck) := hp
      split at hp
      · rename_i xs hi2
        split at hp
        · rename_i ys d hfd
          split at hp
          · rename_i hz
            obtain ⟨b, k1, ⟨vs0, kx, kz, kl⟩, _⟩ := r'.own i _ hi2 rfl
            rw [q1] at k1; cases k1
            refine hf r'.sub kx kl l hfd hz fun v ws hw hv => ?_
            refine hp v _ F' rho' (r'.upOwn hi2 rfl q1 ⟨ws, upd_same, by rw [hw.length]; exact hz, hw⟩ rfl) s p hv
          · exact hp.elim
        · exact hp.elim
      · exact hp.elim
    | exc x e1 S1 => rw [q] at hp; exact hp
    | stuck => rw [q] at hp; exact hp
  · exact hp.elim
theorem sem_lm {i : Nat} {y : Str} {e : Expr} {es : List Expr} {ms : List Ex} {name : Str} {id : String} {r : V → List V → Hp → VK → Prop} {f : MF} {p apos cpos : Pos} (c : Bx Z N sc fs k X W) (slot : PySem.Slot "list" name id) (hty : typeOf (.builtin id) = pure (.type "method_descriptor")) (hm : MtR X id r)
    (hf : MutOk X.gb r f) (hv : vOk N sc i y = true) (ha : OpsE X W ent (e :: es) (ms.map .ex)) (hpl : (e :: es).all plainA = true := by rfl)
    (hbase : attributeBase (.Name y p) name X.env (eval (.Name y p) X.env) = eval (.Name y p) X.env := by rfl)
    (hfew : ((backTo cpos (starEach (e :: es) X.env)).all (fun x => !x.1) && (backToKw cpos (keywordEach [] X.env)).all (fun x => x.1.isSome)
      && decide ((e :: es).length + ([] : List Keyword).length + (if ([] : List Keyword).isEmpty then 0 else 1) < 30)) = true := by rfl)
    (hline : (apos.endLine == cpos.line) = true := by rfl) : PE X (.Call (.Attribute (.Name y p) name apos) (e :: es) [] cpos) (rdE X.gb W ent (mMut i f ms)) := by
  rw [List.all_cons, Bool.and_eq_true] at hpl
  exact (pe_bm PySem.F.plainAttrs_list slot hty hm (rv c i hv) (pa_ops ha) hbase hfew hline (star_plain hpl.1 _ _) (back_plain hpl.2)).weak fun σ H Q h => mut_core hf h
theorem sem_lm0 {i : Nat} {y : Str} {name : Str} {id : String} {r : V → List V → Hp → VK → Prop} {f : MF} {p apos cpos : Pos} (c : Bx Z N sc fs k X W) (slot : PySem.Slot "list" name id) (hty : typeOf (.builtin id) = pure (.type "method_descriptor")) (hm : MtR X id r)
    (hf : MutOk X.gb r f) (hv : vOk N sc i y = true)
    (hbase : attributeBase (.Name y p) name X.env (eval (.Name y p) X.env) = eval (.Name y p) X.env := by rfl)
    (hline : (apos.endLine == cpos.line) = true := by rfl) : PE X (.Call (.Attribute (.Name y p) name apos) [] [] cpos) (rdE X.gb W ent (mMut i f [])) :=
  (pe_bm0 PySem.F.plainAttrs_list slot hty hm (rv c i hv) hbase hline).weak fun σ H Q h => mut_core hf h
end
def mfAppend : MF := fun xs ds => match ds with
  | [d] => some (xs ++ [d], .non)
  | _ => none
def mfInsert : MF := fun xs ds => match ds with
  | [.int i, d] => if nnI i = true then some (xs.take i.toNat ++ [d] ++ xs.drop i.toNat, .non) else none
  | _ => none
def mfPopAt : MF := fun xs ds => match ds with
  | [.int i] => if smI i = true then match seqIndex? i xs.length with
    | some k => match xs[k]? with
      | some d => some (xs.eraseIdx k, d)
      | none => none
    | none => none
    else none
  | _ => none
def mfPop : MF := fun xs ds => match ds with
  | [] => match xs[xs.length - 1]? with
    | some d => some (xs.dropLast, d)
    | none => none
  | _ => none
theorem RepL.one {G : Gb} {rho : List Addr} {F : Hp} {vs : List V} {d : D} (h : RepL G rho F vs [d]) : ∃ v, vs = [v] ∧ Rep G rho F v d := by
  cases h with | cons h t => cases t; exact ⟨_, rfl, h⟩
theorem RepL.two {G : Gb} {rho : List Addr} {F : Hp} {vs : List V} {d d2 : D} (h : RepL G rho F vs [d, d2]) : ∃ v v2, vs = [v, v2] ∧ Rep G rho F v d ∧ Rep G rho F v2 d2 := by
  cases h with | cons h t => obtain ⟨w, rfl, q⟩ := t.one; exact ⟨_, w, rfl, h, q⟩
theorem rep_int {G : Gb} {rho : List Addr} {F : Hp} {v : V} {i : Int} (h : Rep G rho F v (.int i)) : v = .int i := by cases h; rfl
theorem ok_append {G : Gb} : MutOk G rAppend mfAppend := by
  intro rho F H a vs as xs ds ys d Q s hx l la hf z q
  unfold mfAppend at hf
  split at hf
  · cases hf
    obtain ⟨y, rfl, r⟩ := la.one
    rw [List.length_append] at z
    exact ⟨a, vs, y, rfl, rfl, hx, by rw [l.length]; simp at z; omega, q _ _ (l.append (.cons r .nil)) .non⟩
  · cases hf
def rInsert : V → List V → Hp → VK → Prop := fun x vs H Q => ∃ (l : Addr) (xs : List V) (i : Int) (y : V), x = .ref l ∧ vs = [.int i, y] ∧ H l = some (.lst xs) ∧ xs.length < sizeLine ∧ 0 ≤ i ∧ i < 2 ^ 63 ∧
    Q .non (upd H l (.lst (xs.take i.toNat ++ [y] ++ xs.drop i.toNat)))
theorem ok_insert {G : Gb} : MutOk G rInsert mfInsert := by
  intro rho F H a vs as xs ds ys d Q s hx l la hf z q
  unfold mfInsert at hf
  split at hf
  · split at hf
    · rename_i hi
      cases hf
      obtain ⟨x, y, rfl, r1, r2⟩ := la.two
      cases rep_int r1
      have h9 := nnI_of hi
      refine ⟨a, vs, _, y, rfl, rfl, hx, ?_, by omega, by omega, q _ _ (((l.take _).append (.cons r2 .nil)).append (l.drop _)) .non⟩
      rw [l.length]
      simp only [List.length_append, List.length_take, List.length_drop, List.length_cons, List.length_nil] at z
      omega
    · cases hf
  · cases hf
theorem ok_popAt {G : Gb} : MutOk G rPopAt mfPopAt := by
  intro rho F H a vs as xs ds ys d Q s hx l la hf z q
  unfold mfPopAt at hf
  split at hf
  · split at hf
    · rename_i hi
      split at hf
      · rename_i k hk
        split at hf
        · rename_i d0 hd
          cases hf
          obtain ⟨x, rfl, r1⟩ := la.one
          cases rep_int r1
          obtain ⟨y, hy, r2⟩ := l.get hd
          have h9 := smI_of hi
          exact ⟨a, vs, _, k, y, rfl, rfl, hx, by omega, by omega, by rw [l.length]; exact hk, hy, q _ _ (l.eraseIdx k) r2⟩
        · cases hf
      · cases hf
    · cases hf
  · cases hf
theorem ok_pop {G : Gb} : MutOk G rPop mfPop := by
  intro rho F H a vs as xs ds ys d Q s hx l la hf z q
  unfold mfPop at hf
  split at hf
  · split at hf
    · rename_i d0 hd
      cases hf
      cases la
      obtain ⟨y, hy, r2⟩ := l.get hd
      refine ⟨a, vs, y, rfl, rfl, hx, by rw [l.length]; exact hy, q _ _ ?_ r2⟩
      rw [List.dropLast_eq_take, List.dropLast_eq_take, l.length]
      exact l.take _
    · cases hf
  · cases hf

/-! xs[i] = v of an owned list -/
def sPutL (i : Nat) (mi mv : Ex) : Sm := fun e S => (mv e S).bind fun v e S => match e[i]? with
  | some (some (.own _)) => (mi e S).bind fun j e S => match e[i]?, j with
    | some (some (.own xs)), .int k => match ixN xs.length k with
      | some j => .ok .next (e.set i (some (.own (xs.set j v)))) S
      | none => .stuck
    | _, _ => .stuck
  | _ => .stuck
section
variable {X : Cx} {W : WX} {ent : Ent} {Z : En} {N : List Str} {sc : Scope} {fs : Str → Bool} {k : Nat}
theorem semS_putL {i : Nat} {y : Str} {ix value : Expr} {mi mv : Ex} {p pos' pos : Pos} (c : Bx Z N sc fs k X W) (hv : vOk N sc i y = true) (hi : PE X ix (rdE X.gb W ent mi)) (hx : PE X value (rdE X.gb W ent mv))
    (ha : ∀ v, assign (.Subscript (.Name y p) ix pos') X.env v = (do
      let ov ← holding [v] (eval (.Name y p) X.env)
      let iv ← holding [v, ov] (eval ix X.env)
      standAt pos'
      holding [v, ov, iv] (setItem ov iv v)
      release [v, ov, iv] []) := by intro _; rfl)
    (hs : swapsWithSole [.Subscript (.Name y p) ix pos'] value pos.line X.env = pure false := by rfl) (hw : swappedStores [.Subscript (.Name y p) ix pos'] value X.env = pure none := by rfl)
    (h1 : (assignEach [.Subscript (.Name y p) ix pos'] X.env).map (·.2) = [assign (.Subscript (.Name y p) ix pos') X.env] := by rfl) :
    PS X (.Assign [.Subscript (.Name y p) ix pos'] value pos) (rdS X.gb W ent (sPutL i mi mv)) :=
  (ps_asg hx (pg_sub (rv c i hv) hi set_list ha) hs hw h1).weak fun D σ H ⟨e, S, F, rho, hR, hp⟩ => by
    refine ⟨e, S, F, rho, hR, ?_⟩
    unfold sPutL at hp
    cases q : mv e S with
    | ok d e1 S1 =>
      rw [q] at hp
      intro v H1 F1 rho1 r1 s1 p1 rep1
      have hp : postS X.gb W ent F rho D (match e1[i]? with
        | some (some (.own _)) => (mi e1 S1).bind fun j e S => match e[i]?, j with
          | some (some (.own xs)), .int k => match ixN xs.length k with
            | some j => .ok .next (e.set i (some (.own (xs.set j d)))) S
            | none => .stuck
          | _, _ => .stuck
        | _ => .stuck) := hp
      split at hp
      · rename_i xs0 hi0
        obtain ⟨a, q1, _⟩ := r1.own i _ hi0 rfl
        refine ⟨.ref a, q1, e1, S1, F1, rho1, r1, ?_⟩
        cases q2 : mi e1 S1 with
        | ok j e2 S2 =>
          rw [q2] at hp
          intro w H2 F2 rho2 r2 s2 p2 rep2
          have hp : postS X.gb W ent F rho D (match (generalizing := false) e2[i]?, j with
            | some (some (.own xs)), .int k => match ixN xs.length k with
              | some j => .ok .next (e2.set i (some (.own (xs.set j d)))) S2
              | none => .stuck
            | _, _ => .stuck) := hp
          split at hp
          · rename_i xs k hi2 hk0
            split at hp
            · rename_i j hj
              cases rep_int rep2
              obtain ⟨b, k1, ⟨vs0, kx, kz, kl⟩, _⟩ := r2.own i _ hi2 rfl
              rw [q1] at k1; cases k1
              refine ⟨a, vs0, k, j, rfl, rfl, kx, by rw [kl.length]; exact hj, ?_⟩
              exact hp σ _ F2 rho2 (r2.upOwn hi2 rfl q1 ⟨_, upd_same, by rw [List.length_set]; exact kz, kl.set (rep1.mono s2 p2) j⟩ rfl) (s1.trans s2) (p1.trans p2)
            · exact hp.elim
          · exact hp.elim
        | exc x e2 S2 => rw [q2] at hp; exact postX.mono s1 p1 (hp σ)
        | stuck => rw [q2] at hp; exact hp.elim
      · exact hp.elim
    | exc x e1 S1 => rw [q] at hp; exact hp σ
    | stuck => rw [q] at hp; exact hp
end
end TM
namespace TM
open PySem PySem.Spec L2
open PyProof.Rows hiding St

/-! dicts of the store -/
def valKD (kvs : List (Key × D)) (k : Key) : Option D := (kvs.find? fun kv => decide (kv.1 = k)).map (·.2)
def putKD (kvs : List (Key × D)) (k : Key) (v : D) : List (Key × D) :=
  if (kvs.any fun kv => decide (kv.1 = k)) = true then kvs.map (fun kv => if kv.1 = k then (kv.1, v) else kv) else kvs ++ [(k, v)]
structure KRel (G : Gb) (rho : List Addr) (F : Hp) (vs : List (Key × V)) (ds : List (Key × D)) : Prop where
  keys : vs.map (·.1) = ds.map (·.1)
  vals : RepL G rho F (vs.map (·.2)) (ds.map (·.2))
section
variable {G : Gb} {rho : List Addr} {F : Hp}
theorem KRel.nil : KRel G rho F [] [] := ⟨rfl, .nil⟩
theorem KRel.cons {k : Key} {v : V} {d : D} {vs : List (Key × V)} {ds : List (Key × D)} (h : Rep G rho F v d) (t : KRel G rho F vs ds) : KRel G rho F ((k, v) :: vs) ((k, d) :: ds) := ⟨by simp [t.keys], .cons h t.vals⟩
theorem KRel.ind {P : List (Key × V) → List (Key × D) → Prop} (h0 : P [] []) (h1 : ∀ k v d vs ds, Rep G rho F v d → KRel G rho F vs ds → P vs ds → P ((k, v) :: vs) ((k, d) :: ds)) : ∀ {vs ds}, KRel G rho F vs ds → P vs ds
  | [], [], _ => h0
  | (k, v) :: vs, (k2, d) :: ds, h => by
    obtain ⟨h2, h3⟩ := h
    simp only [List.map_cons, List.cons.injEq] at h2
    obtain ⟨rfl, h2⟩ := h2
    cases h3 with
    | cons r l => exact h1 _ _ _ _ _ r ⟨h2, l⟩ (KRel.ind h0 h1 ⟨h2, l⟩)
  | [], _ :: _, h => by have := h.keys; simp at this
  | _ :: _, [], h => by have := h.keys; simp at this
theorem KRel.any {k : Key} {vs ds} (h : KRel G rho F vs ds) : (vs.any fun kv => decide (kv.1 = k)) = (ds.any fun kv => decide (kv.1 = k)) := by
  refine KRel.ind (P := fun vs ds => (vs.any fun kv => decide (kv.1 = k)) = (ds.any fun kv => decide (kv.1 = k))) rfl (fun k v d vs ds r t ih => ?_) h
  simp only [List.any_cons, ih]
theorem KRel.get {k : Key} {d : D} {vs ds} (h : KRel G rho F vs ds) (e : valKD ds k = some d) : ∃ v, valV vs k = some v ∧ Rep G rho F v d := by
  revert e
  refine KRel.ind (P := fun vs ds => valKD ds k = some d → ∃ v, valV vs k = some v ∧ Rep G rho F v d) (fun e => by simp [valKD] at e) (fun k2 v d2 vs ds r t ih e => ?_) h
  by_cases q : k2 = k
  · subst q
    unfold valKD at e
    rw [List.find?_cons] at e
    simp at e
    subst e
    exact ⟨v, valV_pos rfl, r⟩
  · have : valKD ds k = some d := by
      unfold valKD at e ⊢
      rw [List.find?_cons] at e
      simpa [q] using e
    obtain ⟨w, h1, h2⟩ := ih this
    exact ⟨w, by rw [valV_neg (p := (k2, v)) q]; exact h1, h2⟩
theorem KRel.app {vs ds vs2 ds2} (h : KRel G rho F vs ds) (h2 : KRel G rho F vs2 ds2) : KRel G rho F (vs ++ vs2) (ds ++ ds2) := ⟨by simp [h.keys, h2.keys], by rw [List.map_append, List.map_append]; exact h.vals.append h2.vals⟩
theorem KRel.put {k : Key} {v : V} {d : D} {vs ds} (h : KRel G rho F vs ds) (r : Rep G rho F v d) : KRel G rho F (putK vs k v) (putKD ds k d) := by
  unfold putK putKD
  rw [h.any]
  split
  · refine KRel.ind (P := fun vs ds => KRel G rho F (vs.map fun kv => if kv.1 = k then (kv.1, v) else kv) (ds.map fun kv => if kv.1 = k then (kv.1, d) else kv)) .nil (fun k2 v2 d2 vs ds r2 t ih => ?_) h
    rw [List.map_cons, List.map_cons]
    by_cases q : k2 = k
    · simp only [q, if_true]; exact .cons r ih
    · simp only [q, if_false]; exact .cons r2 ih
  · exact h.app (.cons r .nil)
def mergeKD (kvs more : List (Key × D)) : List (Key × D) := more.foldl (fun acc kv => putKD acc kv.1 kv.2) kvs
theorem KRel.merge : ∀ {more mored vs ds}, KRel G rho F more mored → KRel G rho F vs ds → KRel G rho F (mergeK vs more) (mergeKD ds mored) := by
  intro more mored vs ds h
  refine KRel.ind (P := fun more mored => ∀ {vs ds}, KRel G rho F vs ds → KRel G rho F (mergeK vs more) (mergeKD ds mored)) (fun q => q) (fun k v d more mored r t ih vs ds q => ?_) h
  exact ih (q.put r)
theorem KRel.mono {F' : Hp} {rho' : List Addr} {vs ds} (s : Sub F F') (p : Pre rho rho') (h : KRel G rho F vs ds) : KRel G rho' F' vs ds := ⟨h.keys, h.vals.mono s p⟩
theorem rep_ref {v : V} {n : Nat} (h : Rep G rho F v (.ref n)) : ∃ a, v = .ref a ∧ rho[n]? = some a := by cases h; exact ⟨_, rfl, by assumption⟩
theorem rep_key {v : V} {d : D} {k : Key} (h : Rep G rho F v d) (e : keyD d = some k) : v = kV k := by
  cases keyD_eq e
  cases k <;> (cases h; rfl)
end
def dictAt (S : Sto) (d : D) : Option (List (Key × D)) := match d with
  | .ref n => match S[n]? with
    | some (.dict kvs) => some kvs
    | _ => none
  | _ => none
theorem dictAt_of {S : Sto} {d : D} {kvs : List (Key × D)} (h : dictAt S d = some kvs) : ∃ n, d = .ref n ∧ S[n]? = some (.dict kvs) := by
  unfold dictAt at h
  split at h
  · split at h
    · cases h; exact ⟨_, rfl, by assumption⟩
    · cases h
  · cases h
def dGetS (S : Sto) (d k : D) : Option D := match dictAt S d with
  | some kvs => match keyD k with
    | some x => valKD kvs x
    | none => none
  | none => none
theorem dGetS_of {S : Sto} {d k v : D} (h : dGetS S d k = some v) : ∃ n kvs x, d = .ref n ∧ S[n]? = some (.dict kvs) ∧ keyD k = some x ∧ valKD kvs x = some v := by
  unfold dGetS at h
  split at h
  · split at h
    · obtain ⟨n, h1, h2⟩ := dictAt_of (by assumption)
      exact ⟨n, _, _, h1, h2, by assumption, h⟩
    · cases h
  · cases h
def dPutS (S : Sto) (d k v : D) : Option Sto := match d with
  | .ref n => match S[n]? with
    | some (.dict kvs) => match keyD k with
      | some x => if kvs.length < sizeLine then some (S.set n (.dict (putKD kvs x v))) else none
      | none => none
    | _ => none
  | _ => none
theorem dPutS_of {S S' : Sto} {d k v : D} (h : dPutS S d k v = some S') : ∃ n kvs x, d = .ref n ∧ S[n]? = some (.dict kvs) ∧ keyD k = some x ∧ kvs.length < sizeLine ∧ S' = S.set n (.dict (putKD kvs x v)) := by
  unfold dPutS at h
  split at h
  · split at h
    · split at h
      · split at h
        · cases h; exact ⟨_, _, _, rfl, by assumption, by assumption, by assumption, rfl⟩
        · cases h
      · cases h
    · cases h
  · cases h
def bGet (md mk : Ex) : Ex := fun e S => (md e S).bind fun d e S => (mk e S).bind fun k e S => match dGetS S d k with
  | some v => .ok v e S
  | none => .stuck
def sPutD (md mk mv : Ex) : Sm := fun e S => (mv e S).bind fun v e S => (md e S).bind fun d e S => (mk e S).bind fun k e S => match dPutS S d k v with
  | some S' => .ok .next e S'
  | none => .stuck
section
variable {X : Cx} {W : WX} {ent : Ent} {Z : En} {N : List Str} {sc : Scope} {fs : Str → Bool} {k : Nat} {pos : Pos}
theorem R.dict {G : Gb} {e : Env} {S : Sto} {σ : L2.St} {H F : Hp} {rho : List Addr} (r : R G ent e S σ H F rho) {n : Nat} {a : Addr} {kvs : List (Key × D)} (h1 : S[n]? = some (.dict kvs)) (h2 : rho[n]? = some a) : ∃ vs, H a = some (.dK vs) ∧ KRel G rho F vs kvs := by
  obtain ⟨⟨vs, q1, q2, q3⟩, _⟩ := r.sto n _ a h1 h2
  exact ⟨vs, q1, q2, q3⟩
theorem sem_get {o i : Expr} {md mk : Ex} (hu : X.A.units + 1 < cLine) (ho : PE X o (rdE X.gb W ent md)) (hi : PE X i (rdE X.gb W ent mk)) (hs : NoSl i := by intro _ _; rfl) : PE X (.Subscript o i pos) (rdE X.gb W ent (bGet md mk)) :=
  (pe_dget hu ho hi hs).weak fun σ H Q ⟨e, S, F, rho, hR, hp⟩ => by
    refine ⟨e, S, F, rho, hR, ?_⟩
    unfold bGet at hp
    cases q : md e S with
    | ok d e1 S1 =>
      rw [q] at hp
      intro v H1 F1 rho1 r1 s1 p1 rep1
      refine ⟨e1, S1, F1, rho1, r1, ?_⟩
      replace hp : postE X.gb W ent σ F rho Q ((mk e1 S1).bind fun k e S => match dGetS S d k with
        | some v => .ok v e S
        | none => .stuck) := hp
      cases q2 : mk e1 S1 with
      | ok ky e2 S2 =>
        rw [q2] at hp
        intro y H2 F2 rho2 r2 s2 p2 rep2
        replace hp : postE X.gb W ent σ F rho Q (match dGetS S2 d ky with
          | some v => .ok v e2 S2
          | none => .stuck) := hp
        cases hd : dGetS S2 d ky with
        | none => rw [hd] at hp; exact hp.elim
        | some w =>
          rw [hd] at hp
          obtain ⟨n, kvs, x, rfl, hn, hk, hw⟩ := dGetS_of hd
          obtain ⟨a, rfl, ha⟩ := rep_ref rep1
          obtain ⟨vs, h1, h2⟩ := r2.dict hn (p2 _ _ ha)
          obtain ⟨v, hv, rv⟩ := h2.get hw
          refine ⟨a, v, rfl, ?_, hp v H2 F2 rho2 r2 (s1.trans s2) (p1.trans p2) rv⟩
          rw [← hv, rep_key rep2 hk]
          exact DGet.k h1
      | exc x e2 S2 => rw [q2] at hp; exact postX.mono s1 p1 hp
      | stuck => rw [q2] at hp; exact hp.elim
    | exc x e1 S1 => rw [q] at hp; exact hp
    | stuck => rw [q] at hp; exact hp
theorem semS_putD {o i value : Expr} {md mk mv : Ex} {pos' : Pos} (hu : X.A.units + 1 < cLine) (ho : PE X o (rdE X.gb W ent md)) (hi : PE X i (rdE X.gb W ent mk)) (hv : PE X value (rdE X.gb W ent mv))
    (hs : swapsWith value (some (.Subscript o i pos')) pos.line X.env = pure false) : PS X (.Assign [.Subscript o i pos'] value pos) (rdS X.gb W ent (sPutD md mk mv)) :=
  (ps_dput hu ho hi hv hs).weak fun Dn σ H ⟨e, S, F, rho, hR, hp⟩ => by
    refine ⟨e, S, F, rho, hR, ?_⟩
    unfold sPutD at hp
    cases q : mv e S with
    | ok dv e0 S0 =>
      rw [q] at hp
      intro v H0 F0 rho0 r0 s0 p0 rep0
      refine ⟨e0, S0, F0, rho0, r0, ?_⟩
      replace hp : postS X.gb W ent F rho Dn ((md e0 S0).bind fun d e S => (mk e S).bind fun k e S => match dPutS S d k dv with
        | some S' => .ok .next e S'
        | none => .stuck) := hp
      cases q1 : md e0 S0 with
      | ok d e1 S1 =>
        rw [q1] at hp
        intro w H1 F1 rho1 r1 s1 p1 rep1
        refine ⟨e1, S1, F1, rho1, r1, ?_⟩
        replace hp : postS X.gb W ent F rho Dn ((mk e1 S1).bind fun k e S => match dPutS S d k dv with
          | some S' => .ok .next e S'
          | none => .stuck) := hp
        cases q2 : mk e1 S1 with
        | ok ky e2 S2 =>
          rw [q2] at hp
          intro y H2 F2 rho2 r2 s2 p2 rep2
          replace hp : postS X.gb W ent F rho Dn (match dPutS S2 d ky dv with
            | some S' => .ok .next e2 S'
            | none => .stuck) := hp
          cases hd : dPutS S2 d ky dv with
          | none => rw [hd] at hp; exact hp.elim
          | some S' =>
            rw [hd] at hp
            obtain ⟨n, kvs, x, rfl, hn, hk, hz, rfl⟩ := dPutS_of hd
            obtain ⟨a, rfl, ha⟩ := rep_ref rep1
            obtain ⟨vs, h1, h2⟩ := r2.dict hn (p2 _ _ ha)
            have hl : vs.length = kvs.length := by have := congrArg List.length h2.keys; simpa using this
            have h3 := h2.put (k := x) (rep0.mono (s1.trans s2) (p1.trans p2))
            refine ⟨a, upd H2 a (.dK (putK vs x v)), rfl, ?_, ?_⟩
            · rw [rep_key rep2 hk]
              exact DPut.k h1 (by rw [hl]; exact hz)
            · exact hp σ _ F2 rho2 (r2.upSto hn (p2 _ _ ha) _ ⟨_, upd_same, h3.keys, h3.vals⟩) ((s0.trans s1).trans s2) ((p0.trans p1).trans p2)
        | exc x e2 S2 => rw [q2] at hp; exact postX.mono (s0.trans s1) (p0.trans p1) (hp σ)
        | stuck => rw [q2] at hp; exact hp.elim
      | exc x e2 S2 => rw [q1] at hp; exact postX.mono s0 p0 (hp σ)
      | stuck => rw [q1] at hp; exact hp.elim
    | exc x e1 S1 => rw [q] at hp; exact hp σ
    | stuck => rw [q] at hp; exact hp

/-! a display: a new dict of the store -/
def wDisp (ks : List Str) (ms : List Ex) : Wx := fun e S => (evX ms e S).bind fun ds e S => .ok (.val (.ref S.length)) e (S ++ [.dict (mergeKD [] ((ks.map Sum.inr).zip ds))])
def trsOf (G : Gb) (W : WX) (ent : Ent) (ks : List Str) (ms : List Ex) : List (TE × TE) := (ks.zip ms).map fun p => (tC (.str p.1), fun σ H Q => ∃ a o, rdE G W (ent.hold a o) p.2 σ H Q)
inductive PrE (X : Cx) (W : WX) (pos : Pos) (ent : Ent) : List (Option Expr) → List Expr → List Str → List Ex → Prop
  | nil : PrE X W pos ent [] [] [] []
  | cons {x : Str} {j : Nat} {p : Pos} {v : Expr} {ks : List (Option Expr)} {vs : List Expr} {xs : List Str} {m : Ex} {ms : List Ex} : (∀ ent, PE X v (rdE X.gb W ent m)) → PrE X W pos ent ks vs xs ms →
      PrE X W pos ent (some (.Constant (.str x) j p) :: ks) (v :: vs) (x :: xs) (m :: ms)
theorem PrE.pps : ∀ {ks : List (Option Expr)} {vs : List Expr} {xs : List Str} {ms : List Ex}, PrE X W pos ent ks vs xs ms → PPs X pos ks vs (trsOf X.gb W ent xs ms)
  | _, _, _, _, .nil => pps_nil
  | _, _, _, _, .cons h t => pps_cons pe_str ⟨fun pins s σ H Q I ⟨a, o, hq⟩ => (h _).run pins s σ H Q I hq⟩ (PrE.pps t)
theorem pairs_of {G : Gb} {p : Addr} {σ : L2.St} : ∀ {xs : List Str} {ms : List Ex} {e : Env} {S : Sto} {H F : Hp} {rho : List Addr} {K : List (V × V) → Hp → Prop}, xs.length = ms.length → R G (ent.hold p (.dK [])) e S σ H F rho →
    postXs G W (ent.hold p (.dK [])) σ F rho (fun vs H' => K ((xs.zip vs).map fun q => (.str q.1, q.2)) H') (evX ms e S) → tPairs (trsOf G W ent xs ms) σ H K
  | [], [], e, S, H, F, rho, K, _, hR, hp => hp [] H F rho hR (Sub.refl _) (Pre.refl _) .nil
  | x :: xs, m :: ms, e, S, H, F, rho, K, hl, hR, hp => by
    unfold evX at hp
    refine ⟨p, .dK [], e, S, F, rho, hR, ?_⟩
    show postE G W (ent.hold p (.dK [])) σ F rho (fun y H2 => tPairs (trsOf G W ent xs ms) σ H2 fun ps H3 => K ((.str x, y) :: ps) H3) (m e S)
    cases q : m e S with
    | ok d e1 S1 =>
      rw [q] at hp
      intro v H1 F1 rho1 hR1 s1 p1 r1
      refine pairs_of (by simpa using hl) hR1 ?_
      replace hp : postXs G W (ent.hold p (.dK [])) σ F rho (fun vs H' => K (((x :: xs).zip vs).map fun q => (.str q.1, q.2)) H') ((evX ms e1 S1).bind fun ds e S => .ok (d :: ds) e S) := hp
      cases q2 : evX ms e1 S1 with
      | ok ws e2 S2 =>
        rw [q2] at hp
        intro vs H2 F2 rho2 hR2 s2 p2 hr
        exact hp (v :: vs) H2 F2 rho2 hR2 (s1.trans s2) (p1.trans p2) (.cons (r1.mono s2 p2) hr)
      | exc x e2 S2 => rw [q2] at hp; exact postX.mono s1 p1 hp
      | stuck => rw [q2] at hp; exact hp
    | exc x e1 S1 => rw [q] at hp; exact hp
    | stuck => rw [q] at hp; exact hp
  | [], _ :: _, _, _, _, _, _, _, h, _, _ => by simp at h
  | _ :: _, [], _, _, _, _, _, _, h, _, _ => by simp at h
theorem krel_zip {G : Gb} {rho : List Addr} {F : Hp} : ∀ {xs : List Str} {vs : List V} {ds : List D}, RepL G rho F vs ds → KRel G rho F ((xs.map Sum.inr).zip vs) ((xs.map Sum.inr).zip ds)
  | [], _, _, _ => .nil
  | x :: xs, [], _, .nil => .nil
  | x :: xs, _ :: _, _, .cons r l => .cons r (krel_zip l)
theorem semW_disp {keys : List (Option Expr)} {values : List Expr} {ks : List Str} {ms : List Ex} (h : PrE X W pos ent keys values ks ms) (hall : keys.all (·.isSome) = true) (hl : keys.length = values.length) (h0 : keys ≠ []) (h15 : keys.length ≤ 15) (hk : ks.length = ms.length) (hk15 : ks.length ≤ 15) :
    PE X (.Dict keys values pos) (rdW X.gb W ent (wDisp ks ms)) :=
  (pe_disp h.pps hall hl h0 h15).weak fun σ H Q ⟨e, S, F, rho, hR, hp⟩ => by
    intro p hpn
    have hfp : F p = none := by
      cases z : F p with
      | none => rfl
      | some o => rw [hR.sub p o z] at hpn; cases hpn
    have hrp : p ∉ rho := fun z => (hR.rhoSome z).1 hpn
    have hns : NoSlot e σ p := fun i t hi ht z => by
      obtain ⟨a, q1, q2, _⟩ := hR.own i t hi ht
      rw [q1] at z; cases z
      exact q2.isob hpn
    have hR1 := (hR.lay (o := .dK []) hpn).held (o := .dK []) upd_same hfp hrp hns
    refine pairs_of hk hR1 ?_
    unfold wDisp at hp
    cases q : evX ms e S with
    | ok ds e1 S1 =>
      rw [q] at hp
      intro vs H' F' rho' r s pr l
      obtain ⟨k1, k2, k3⟩ := r.keep p (.dK []) (.inr ⟨rfl, rfl⟩)
      refine ⟨k1, (ks.map Sum.inr).zip vs, ?_, by rw [List.length_zip, List.length_map]; omega, ?_⟩
      · rw [List.zip_map_left, List.map_map]
        exact List.map_congr_left fun _ _ => rfl
      · have r2 := r.less (ent' := ent) (fun a o z => Or.inl z) rfl rfl
        have hns2 : NoSlot e1 σ p := fun i t hi ht z => by
          obtain ⟨a, q1, _, _, q4, _⟩ := r.own i t hi ht
          rw [q1] at z; cases z
          exact q4 _ (.inr ⟨rfl, rfl⟩)
        have hm := (krel_zip (xs := ks) l).merge (vs := []) (ds := []) .nil
        have hm2 := hm.mono (Sub.refl F') (Pre.snoc rho' p)
        have r3 := r2.newS (o := .dK (mergeK [] ((ks.map Sum.inr).zip vs))) k2 k3 (hR.fresh hpn) hns2 (.dict (mergeKD [] ((ks.map Sum.inr).zip ds))) ⟨_, upd_same, hm2.keys, hm2.vals⟩
        refine hp (.ref p) _ F' (rho' ++ [p]) r3 s (pr.trans (Pre.snoc rho' p)) (show Rep _ _ _ _ _ from .ref ?_)
        rw [r.slen, List.getElem?_append_right (Nat.le_refl _), Nat.sub_self]
        rfl
    | exc x e1 S1 => rw [q] at hp; exact postX.less (ent := ent) (fun a o z => Or.inl z) rfl rfl hp
    | stuck => rw [q] at hp; exact hp
end
end TM
namespace TM
open PySem PySem.Spec L2
open PyProof.Rows hiding St

/-! enumerate of a tuple -/
set_option maxHeartbeats 4000000 in
theorem meets_enum1B {v : Value} {o : Obj} {H : Heap → Prop} (B : Begins v o H) :
    Meets (Builtin.«enumerate.__new__» ⟨[.type "enumerate", v], []⟩) (fun _ R s => H s.heap ∧
      R (.ok (.ret (.ref (s.heap.push o).objs.size))) { s with heap := (s.heap.push o).push { cls := .type "enumerate", data := .fields #[.none, .bool false, .ref s.heap.objs.size, rawInt 0, .none, .none] } }) :=
  .of_wp fun prog w A R s h => by
    obtain ⟨hp, g, d, tk, os⟩ := s; obtain ⟨h1, h⟩ := h
    have hsub := sub_enumerate
    have q1 : ∀ {A' : Around} {E : Value → Shared → Prop} {Q : Value → Shared → Prop}, Q (.ref hp.objs.size) ⟨hp.push o, g, d, tk, os⟩ → wpAny (model prog w) A' (pyIter v) Q E ⟨hp, g, d, tk, os⟩ :=
      fun q => B.iter prog w _ _ ⟨hp, g, d, tk, os⟩ _ h1 q
    wp_walk using q1
    refine wpAny_stack_any fun st => wpAny_pure ?_
    split
    · rename_i c _ _ _ _ _
      cases (c == Value.type "enumerate")
      · wp_walk using q1
        exact ⟨_, rfl, h⟩
      · wp_walk using q1
        exact ⟨_, rfl, h⟩
    · wp_walk using q1
      exact ⟨_, rfl, h⟩
theorem enum1_begins {prog : Program} {w : World} {A : Around} {E : Value → Shared → Prop} {s : Shared} {v : Value} {o : Obj} {H : Heap → Prop} {Q : Value → Shared → Prop} (B : Begins v o H) (h1 : H s.heap)
    (h : ∀ h', IsEnum h' (s.heap.objs.size + 1) s.heap.objs.size 0 .none → h'.get? s.heap.objs.size = some o → h'.objs.size = s.heap.objs.size + 2 →
      (∀ b o, s.heap.get? b = some o → h'.get? b = some o) → Q (.ref (s.heap.objs.size + 1)) { s with heap := h' }) :
    wpAny (model prog w) A (call (.type "enumerate") [v]) Q E s := by
  refine callType_new F.called_enumerate (by decide) (F.typeCall_enumerate_1 _) (F.newCall_enumerate_1 _) (fun obj => F.args_object_init_2 obj _) F.entry_enumerate_new
    (meets_enum1B B) ⟨h1, ?_⟩
  have hz : (s.heap.push o).objs.size = s.heap.objs.size + 1 := Heap.size_push ..
  show _ ∧ _
  rw [hz]
  have he : IsEnum ((s.heap.push o).push { cls := .type "enumerate", data := .fields #[.none, .bool false, .ref s.heap.objs.size, rawInt 0, .none, .none] }) (s.heap.objs.size + 1) s.heap.objs.size 0 .none := by
    have := Heap.get?_push_size (s.heap.push o) (o := { cls := .type "enumerate", data := .fields #[.none, .bool false, .ref s.heap.objs.size, rawInt 0, .none, .none] }) rfl
    rw [hz] at this; exact this
  refine ⟨⟨_, he, rfl⟩, h _ he (Heap.get?_push_of_some _ (Heap.get?_push_size _ B.free)) (by rw [Heap.size_push, hz]) fun b o x => Heap.get?_push_of_some _ (Heap.get?_push_of_some _ x)⟩
/-- the tuple at a, each item in a new pair -/
def IteT (K : PySem.W.Frag) (a : Addr) (xs : List V) : It :=
  ⟨fun i H => SqT K H a xs ∧ i < xs.length, fun i H v H' => ∃ T x, v = .ref T ∧ H T = none ∧ H' = upd H T (.tup [.int (i : Nat), x]) ∧ xs[i]? = some x, fun i H => SqT K H a xs ∧ xs.length = i⟩
theorem turn_enumT {P : Program} {w : World} {K : PySem.W.Frag} {elts : List Expr} {kk : Nat} {tpos : Pos} (a e it : Addr) (xs : List V) :
    L2.Turn P w K (.Tuple elts kk tpos) (IteT K a xs) [e, it] e (fun i h => (∃ old, IsEnum h e it ((i : Nat) : Int) old) ∧ h.IsTupleIter it a i ∧ e ≠ it ∧ e ≠ a ∧ a ≠ it) where
  mem := by simp
  obj := fun i h st b hb => by
    obtain ⟨⟨old, he⟩, ⟨o, ho, hc, hd⟩, _⟩ := st
    have e' : b = e ∨ b = it := by simpa using hb
    rcases e' with z | z
    · rw [z]; exact ⟨_, he, fun v q => nomatch q⟩
    · rw [z]; exact ⟨o, ho, fun v q => by rw [hd] at q; cases q⟩
  keep := fun i h h' st k => let ⟨⟨old, he⟩, hi, hne⟩ := st; ⟨⟨old, k e (by simp) _ he⟩, hi.at fun o q => k it (by simp) o q, hne⟩
  item := by
    intro X hP hw hK hc i pins s σ H E I hf st hg
    subst hP hw hK
    obtain ⟨⟨old, he⟩, hit, hne, hea, hai⟩ := st
    obtain ⟨hq, hlt⟩ := hg
    obtain ⟨x, hx⟩ : ∃ x, xs[i]? = some x := ⟨xs[i], by simp [hlt]⟩
    obtain ⟨its, rv, p, hz⟩ := I.tuple hq
    obtain ⟨u, hu, ru⟩ := rv.get hx
    have hel : e < s.heap.objs.size := Heap.lt_size he
    have hil : it < s.heap.objs.size := by obtain ⟨_, q, _⟩ := hit; exact Heap.lt_size q
    have hil2 : i < its.toArray.size := by
      rw [List.size_toArray]; exact (List.getElem?_eq_some_iff.mp hu).1
    refine wpAny_pyNext_enum_itemD (Draws.tuple (A := X.A.in1) (I.ok.hd hc) it a hai its.toArray) he ⟨hit, p⟩ hil2 hne (fun hm => ?_) fun y h' tk hy ho hit' hT hsz hk => ?_
    · simp at hm
      rcases hm with z | z
      · exact hne z
      · exact hea z
    · have hyu : y = u := by
        have : its.toArray[i]? = some u := by simpa using hu
        rw [this] at hy; cases hy; rfl
      subst hyu
      refine ⟨_, rfl, wpAny_letOwnedTupleGo_enum (s := { s with heap := h', toks := tk + 1 }) ho fun h'' he' sb => ?_⟩
      have hT2 : h''.get? s.heap.objs.size = some { cls := .type "tuple", data := .seq #[.int i tk, y] } := (sb.2 _ (Nat.ne_of_gt hel)).trans hT
      have new : ObjOk X.prog X.w (upd H s.heap.objs.size (.tup [.int (i : Nat), x])) h'' s.heap.objs.size (.tup [.int (i : Nat), x]) :=
        ⟨by show 2 ≤ sizeLine; decide, [.int i tk, y], .cons ⟨_, rfl⟩ (.cons ru .nil), ⟨_, hT2, rfl, _, rfl⟩⟩
      have I1 : Inv X pins σ (upd H s.heap.objs.size (.tup [.int (i : Nat), x])) { s with heap := h'', toks := tk + 1 } :=
        I.turnedNew (ch := [e, it]) (fun b ob hb q => (sb.2 b (fun z => hb (by simp [z]))).trans (hk b ob (fun z => hb (by simp [z])) (fun z => hb (by simp [z])) q)) hf (Nat.le_refl _) new
      refine ⟨.ref s.heap.objs.size, _, I1, rfl, ⟨_, x, rfl, I.hok.fresh (Nat.le_refl _), rfl, hx⟩, ⟨⟨y, ?_⟩, hit'.1.at fun o q => (sb.2 it (Ne.symm hne)).trans q, hne, hea, hai⟩, fun b hb => ?_⟩
      · have e1 : ((i + 1 : Nat) : Int) = (i : Int) + 1 := by omega
        rw [e1]; exact he'
      · have hb' : b < s.heap.objs.size := by
          have e' : b = e ∨ b = it := by simpa using hb
          rcases e' with z | z
          · rw [z]; exact hel
          · rw [z]; exact hil
        rw [upd_ne (Nat.ne_of_lt hb')]
        exact (hf b hb).1
  done := by
    intro X hP hw hK hc i pins s σ H E I hf st hg
    subst hP hw hK
    obtain ⟨⟨old, he⟩, hit, hne, hea, hai⟩ := st
    obtain ⟨hq, hx⟩ := hg
    obtain ⟨its, rv, p, hz⟩ := I.tuple hq
    obtain ⟨f0, f1, f2, f3, f4, f5⟩ := hf it (by simp)
    have hl : its.toArray.size = i := by rw [List.size_toArray, ← rv.length]; exact hx
    subst hl
    exact wpAny_pyNext_enum_endD (Draws.tuple (A := X.A.in1) (I.ok.hd hc) it a hai its.toArray) he ⟨hit, p⟩ fun h' eb => ⟨rfl, I.turned (t' := s.toks) (fun b o hb q => eb b o hb q) f0 f1 f3 f4 f5⟩
  self := fun A i s Q E st h => let ⟨⟨_, he⟩, _⟩ := st; wpAny_pyIter_enum he h
def iEnumT (K : PySem.W.Frag) (ta : TA) : TI := fun σ H R => ta σ H fun vs H1 => ∃ a xs, vs = [.ref a] ∧ SqT K H1 a xs ∧ R (IteT K a xs) H1
theorem pi_enumT {X : Cx} {e : Expr} {ta : TA} {p pos tpos : Pos} {elts : List Expr} {kk : Nat} (hg : Gl X "enumerate") (hm : X.mg "enumerate" = none) (ha : PA X [e] ta) (hs : starEach [e] X.env = [(false, eval e X.env)]) :
    PI X (.Tuple elts kk tpos) (.Call (.Name "enumerate" p) [e] [] pos) (iEnumT X.K ta) := by
  refine ⟨fun pins s σ H R I h => ?_⟩
  refine Call_ (ld_blt I hg hm boot_enumerate (PyProof.Rows.callWith_type1 (thn (ha.run pos pins s σ H _ I h) fun us s1 ⟨vs, H1, I1, r1, q1⟩ => ?_) hs rfl))
  obtain ⟨a, xs, ex, hq, q⟩ := q1
  subst ex
  cases r1 with
  | cons r rr =>
    cases rr
    cases r
    obtain ⟨its, rv, p', hz⟩ := I1.tuple hq
    have hlt : a < s1.heap.objs.size := by obtain ⟨_, q, _⟩ := p'; exact Heap.lt_size q
    refine enum1_begins (begins_tuple a its.toArray) p' fun h' he hit hsz hk => wpAny_pyIter_enum he ?_
    have I2 : Inv X pins σ H1 { s1 with heap := h' } := I1.kept (t' := s1.toks) hk
    refine ⟨s1.heap.objs.size + 1, [s1.heap.objs.size + 1, s1.heap.objs.size], _, _, H1, rfl, I2, turn_enumT a (s1.heap.objs.size + 1) s1.heap.objs.size xs, ⟨⟨.none, he⟩, ⟨_, hit, rfl, rfl⟩, Nat.succ_ne_self _, Nat.ne_of_gt (Nat.lt_succ_of_lt hlt), Nat.ne_of_lt hlt⟩, fun b hb => ?_, q⟩
    have e' : b = s1.heap.objs.size + 1 ∨ b = s1.heap.objs.size := by simpa using hb
    have hle : s1.heap.objs.size ≤ b := by
      rcases e' with z | z
      · rw [z]; exact Nat.le_add_right _ _
      · rw [z]; exact Nat.le_refl _
    exact I1.fpOk hle (I1.hok.fresh hle)
def enumD (n : Nat) : List D → List D
  | [] => []
  | d :: ds => .tup [.int (n : Nat), d] :: enumD (n + 1) ds
theorem enumD_length : ∀ (n : Nat) (ds : List D), (enumD n ds).length = ds.length
  | _, [] => rfl
  | n, d :: ds => congrArg (· + 1) (enumD_length (n + 1) ds)
theorem enumD_get : ∀ (n : Nat) (ds : List D) (i : Nat), (enumD n ds)[i]? = (ds[i]?).map fun d => .tup [.int ((n + i : Nat) : Int), d]
  | _, [], i => by simp [enumD]
  | n, d :: ds, 0 => by simp [enumD]
  | n, d :: ds, i + 1 => by
    have := enumD_get (n + 1) ds i
    simp only [enumD, List.getElem?_cons_succ, this]
    congr 2
    funext x
    rw [show n + 1 + i = n + (i + 1) by omega]
theorem walkD_enumT {G : Gb} {rho : List Addr} {F : Hp} {a : Addr} {xs : List V} {ds : List D} (h : SqT G.K F a xs) (z : xs.length ≤ sizeLine) (l : RepL G rho F xs ds) : WalkD G rho F (IteT G.K a xs) (enumD 0 ds) := by
  have w : Walk (IteT G.K a xs) (enumD 0 ds).length (fun H => Sub F H) (fun i H x H' => ∃ T v, x = .ref T ∧ H T = none ∧ H' = upd H T (.tup [.int (i : Nat), v]) ∧ xs[i]? = some v) := by
    rw [enumD_length, ← l.length]
    exact ⟨fun i H hi s => ⟨sqT_mono s h, hi⟩, fun H s => ⟨sqT_mono s h, rfl⟩, fun i H x H' hi s y => y⟩
  refine ⟨by rw [enumD_length, ← l.length]; exact z, _, _, w, fun H s => s, fun i H x H' d rho' F' hd p s s2 y => ?_⟩
  obtain ⟨T, v, rfl, hT, rfl, hv⟩ := y
  rw [enumD_get, Nat.zero_add] at hd
  obtain ⟨d0, hd0, rfl⟩ := Option.map_eq_some_iff.mp hd
  obtain ⟨v', hv', r⟩ := l.get hd0
  rw [hv] at hv'; cases hv'
  have g := Grow.alloc (o := .tup [.int (i : Nat), v]) s2 hT
  refine ⟨_, g, .tup (.of upd_same) (fun _ => upd_same) (by show 2 ≤ sizeLine; decide) (.cons (.int _) (.cons (r.mono (s.trans (g.sub s2)) p) .nil))⟩
/-- enumerate(a tuple) -/
def fEnumT : List D → Option (List D)
  | [.tup ds] => some (enumD 0 ds)
  | _ => none
section
variable {X : Cx} {W : WX} {ent : Ent} {Z : En} {N : List Str} {sc : Scope} {fs : Str → Bool} {k : Nat} {pos p tpos : Pos}
theorem semI_enumT {e : Expr} {o : Opr} {elts : List Expr} {kk : Nat} (c : Bx Z N sc fs k X W) (hg : gOk sc "enumerate" = true) (hm : Z.mg "enumerate" = none) (ha : OpE X W ent e o) (hp : plainA e = true := by rfl) :
    PI X (.Tuple elts kk tpos) (.Call (.Name "enumerate" p) [e] [] pos) (rdI X.gb W ent (iRange fEnumT [o])) :=
  (pi_enumT (Gl.of c hg) (by rw [c.hm]; exact hm) (pa_ops (opc ha opn hp)) (star_plain hp [] _)).weak fun σ H Rc ⟨e, S, F, rho, hR, hp⟩ => by
    refine tOs_R hR ?_
    unfold iRange at hp
    cases q : evR [o] e S with
    | ok ds e1 S1 =>
      rw [q] at hp
      intro vs H' F' rho' r s p kk
      replace hp : postI X.gb W ent σ F rho Rc (match fEnumT ds with
        | some es => .ok es e1 S1
        | none => .stuck) := hp
      cases hf : fEnumT ds with
      | none => rw [hf] at hp; exact hp.elim
      | some es =>
        rw [hf] at hp
        unfold fEnumT at hf
        split at hf
        · cases hf
          obtain ⟨v, rfl, h1⟩ := repBL1 kk
          rcases h1 with h1 | ⟨a, t, rfl, ho, et⟩
          · cases h1 with
            | @tup a xs _ t1 t3 z l => exact ⟨a, xs, rfl, sqT_mono r.sub t1, hp _ H' F' rho' r s p (walkD_enumT t1 z l)⟩
          · cases t <;> first | exact ho.elim | cases et
        · cases hf
    | exc x e1 S1 => rw [q] at hp; exact hp
    | stuck => rw [q] at hp; exact hp.elim
end

/-! t[::-1] of a tuple -/
theorem adjust_rev (n : Nat) : Builtin.Slice.sliceAdjust none none (-1) (n : Int) = ((n : Int) - 1, -1) := by
  unfold Builtin.Slice.sliceAdjust
  simp
theorem places_rev (n : Nat) : Builtin.Slice.slicePlaces ((n : Int) - 1) (-1) (-1) = n := by
  unfold Builtin.Slice.slicePlaces
  simp
  omega
theorem fm_congr {α β : Type} {f g : α → Option β} : ∀ {l : List α}, (∀ a ∈ l, f a = g a) → l.filterMap f = l.filterMap g
  | [], _ => rfl
  | a :: l, h => by
    rw [List.filterMap_cons, List.filterMap_cons, h a List.mem_cons_self, fm_congr fun b hb => h b (List.mem_cons_of_mem _ hb)]
theorem pick_rev (xs : Array Value) : ((List.range xs.size).filterMap fun (m : Nat) => xs[(((xs.size : Int) - 1) + (m : Int) * (-1)).toNat]?).toArray = xs.toList.reverse.toArray := by
  have e : ((List.range xs.size).filterMap fun (m : Nat) => xs[(((xs.size : Int) - 1) + (m : Int) * (-1)).toNat]?) = ((List.range xs.size).map (fun k => xs.size - 1 - k)).filterMap (xs[·]?) := by
    rw [List.filterMap_map]
    apply fm_congr
    intro m hm
    have := List.mem_range.mp hm
    have e : (((xs.size : Int) - 1) + (m : Int) * (-1)).toNat = xs.size - 1 - m := by omega
    rw [e]; rfl
  rw [e, PySem.W.krv_range, List.filterMap_reverse, PySem.W.krv_all]
section
variable {prog : Program} {w : World} {A : Around} {E : Value → Shared → Prop} {s : Shared}
theorem sliceApplied_rev {sl : Addr} {vl vu vs : Value} {n : Nat} {Q : Int × Int × Nat → Shared → Prop} (hs : s.heap.IsSliceOf sl vl vu vs) (pl : IsPart vl none) (pu : IsPart vu none) (ps : IsPart vs (some (-1)))
    (h : Q ((n : Int) - 1, -1, n) s) : wpAny (model prog w) A (Builtin.Slice.sliceApplied (.ref sl) (pure (n : Int))) Q E s := by
  obtain ⟨os, hos, hcs, hds⟩ := id hs
  unfold Builtin.Slice.sliceApplied Builtin.Slice.sliceFields
  refine wpAny_bind (wpAny_bind (wpAny_field hos hds (x := vl) rfl (wpAny_bind (wpAny_field hos hds (x := vu) rfl (wpAny_bind (wpAny_field hos hds (x := vs) rfl (wpAny_pure ?_)))))))
  refine wpAny_bind (HT.slicePart_ ps ?_)
  show wpAny _ _ (if ((-1 : Int) == 0) = true then _ else _) _ _ s
  rw [if_neg (by decide)]
  refine wpAny_bind (HT.slicePart_ pl (wpAny_bind (HT.slicePart_ pu (wpAny_bind (wpAny_pure ?_)))))
  show wpAny _ _ (match Builtin.Slice.sliceAdjust none none (-1) (n : Int) with | (lo, hi) => pure (lo, (-1 : Int), Builtin.Slice.slicePlaces lo hi (-1))) _ _ s
  rw [adjust_rev n]
  show wpAny _ _ (pure ((n : Int) - 1, (-1 : Int), Builtin.Slice.slicePlaces ((n : Int) - 1) (-1) (-1))) _ _ s
  rw [places_rev]
  exact wpAny_pure h
theorem getItem_tuple_rev {t sl : Addr} {items : Array Value} {vl vu vs : Value} {Q : Value → Shared → Prop} (ht : IsTup s.heap t items) (hs : s.heap.IsSliceOf sl vl vu vs) (pl : IsPart vl none) (pu : IsPart vu none) (ps : IsPart vs (some (-1)))
    (h : Q (.ref s.heap.objs.size) { s with heap := s.heap.push { cls := .type "tuple", data := .seq items.toList.reverse.toArray } })
    (hsz : items.size ≤ sizeLine) : wpAny (model prog w) A (getItem (.ref t) (.ref sl)) Q E s := by
  have htake : sizeOk (.seq items.toList.reverse.toArray) := by
    show items.toList.reverse.toArray.size ≤ sizeLine
    rw [List.size_toArray, List.length_reverse, Array.length_toList]
    exact hsz
  obtain ⟨os, hos, hcs, hds⟩ := id hs
  have hTs : s.TypeIs (.ref sl) "slice" := ⟨os, hos, hcs⟩
  unfold getItem
  try with_reducible refine wpAny_holding ?_
  first | refine wpAny_bind (wpAny_pure ?_) | skip
  refine wpAny_bind (wpAny_sequenceKey ht.typeIs (by decide) ?_)
  refine wpAny_bind (wpAny_callSpecial?_slot (name := Str.ofString "__getitem__") ht.typeIs PyProof.Rows.slot_tuple_getitem
    (wpAny_call_entry PyProof.Rows.slot_tuple_getitem ht.typeIs entry_tuple_getitem ?_ (args_tuple_getitem _ _)))
  show wpAny _ _ (Builtin.Tuple.tupleItemsOf (.ref t) >>= _) _ _ s
  refine wpAny_bind (tupleItemsOf_ ht ?_)
  refine wpAny_bind (wpAny_typeOf hTs ?_)
  rw [if_pos (by decide)]
  refine wpAny_bind (sliceApplied_rev hs pl pu ps ?_)
  have hno : ¬ ((((items.size : Int) - 1) == 0 && (-1 : Int) == 1 && items.size == items.size) = true) := by simp
  show wpAny _ _ (if (((items.size : Int) - 1) == 0 && (-1 : Int) == 1 && items.size == items.size) = true then _ else _) _ _ s
  rw [if_neg hno, pick_rev]
  first
    | exact wpAny_bind (m := Builtin.Tuple.tupleExact _) (wpAny_newObj_type (wpAny_pure ⟨_, rfl, wpAny_pure h⟩) htake)
    | exact wpAny_bind (m := Builtin.Tuple.tupleExact _) (wpAny_newObj_type (wpAny_bind (wpAny_pure (wpAny_pure ⟨_, rfl, wpAny_pure h⟩))) htake)
    | exact wpAny_bind (wpAny_bind (m := Builtin.Tuple.tupleExact _) (wpAny_newObj_type (wpAny_pure (wpAny_pure ⟨_, rfl, wpAny_pure h⟩)) htake))
    | exact wpAny_bind (wpAny_bind (m := Builtin.Tuple.tupleExact _) (wpAny_newObj_type (wpAny_pure ⟨_, rfl, wpAny_pure h⟩) htake))
end
def rRevA (K : PySem.W.Frag) : V → Hp → VK → Prop := fun x H1 Q => (∃ a xs, x = .ref a ∧ SqT K H1 a xs ∧ ∀ p, H1 p = none → Q (.ref p) (upd H1 p (.tup xs.reverse))) ∨ ∃ a xs, x = .ref a ∧ SqL K H1 a xs ∧ ∀ p, H1 p = none → Q (.ref p) (upd H1 p (.lst xs.reverse))
section
variable {X : Cx} {W : WX} {ent : Ent}
theorem pe_revT {e : Expr} {te : TE} {k : Nat} {p1 p2 p3 pos : Pos} (he : PE X e te) : PE X (.Subscript e (.Slice none none (some (.UnaryOp .USub (.Constant (.int 1) k p1) p2)) p3) pos) (fun σ H Q => te σ H fun x H1 => rRevA X.K x H1 Q) := by
  refine ⟨fun pins s σ H Q I h => ?_⟩
  refine Subscript_ (thn (he.run pins s σ H _ I h) fun v s1 ⟨x, H1, I1, r1, q1⟩ => ?_)
  have hst : PO X (some (.UnaryOp .USub (.Constant (.int 1) k p1) p2)) (tPart (tUn (rU fun i => .int (-i)) (tC (.int 1)))) := po_some (pe_un un_neg pe_int)
  refine wpAny_Slice (thn (po_none.run pins s1 σ H1 (fun o H2 => o = none ∧ H2 = H1) I1 ⟨rfl, rfl⟩) fun vl s2 ⟨l, H2, I2, pl, el, e2⟩ => ?_)
  subst el e2
  refine thn (po_none.run pins s2 σ H2 (fun o H3 => o = none ∧ H3 = H2) I2 ⟨rfl, rfl⟩) fun vu s3 ⟨u, H3, I3, pu, eu, e3⟩ => ?_
  subst eu e3
  refine thn (hst.run pins s3 σ H3 (fun o H4 => o = some (-1) ∧ H4 = H3) I3 ⟨1, rfl, -1, rfl, rfl, rfl⟩) fun vs s4 ⟨o, H4, I4, ps, eo, e4⟩ => ?_
  subst eo e4
  have I5 : Inv X pins σ H4 { s4 with heap := s4.heap.push { cls := .type "slice", data := .fields #[vl, vu, vs] } } := I4.kept (t' := s4.toks) fun b ob q => Heap.get?_push_of_some _ q
  rcases q1 with ⟨a, xs, ex, hx, q⟩ | ⟨a, xs, ex, hx, q⟩
  · subst ex
    cases r1
    obtain ⟨its, r, ht, hz⟩ := I5.tuple hx
    show wpAny (model X.prog X.w) X.A (subscriptTail e (.Slice none none (some (.UnaryOp .USub (.Constant (.int 1) k p1) p2)) p3) (.ref a) (.ref s4.heap.objs.size)) (EP X pins σ Q) X.xe { s4 with heap := s4.heap.push { cls := .type "slice", data := .fields #[vl, vu, vs] } }
    refine tail_any (ops := [.ref a, .ref s4.heap.objs.size]) ht.typeIs (PyProof.Rows.slot_tuple_getitem.lookup) ?_ (by with_unfolding_all rfl)
    refine getItem_tuple_rev ht (Heap.IsSliceOf.new _ vl vu vs) pl pu ps ?_ (by rw [List.size_toArray, ← r.length]; exact hz)
    refine ⟨.ref _, _, I5.laid (t' := s4.toks) (o := .tup xs.reverse) (fun b ob q => Heap.get?_push_of_some _ q) (Nat.le_refl _) ?_, rfl, q _ (I5.hok.fresh (Nat.le_refl _))⟩
    exact ⟨by rw [List.length_reverse]; exact hz, _, r.reverse, IsTup.new _ _⟩
  · subst ex
    cases r1
    obtain ⟨its, r, ht, hz⟩ := I5.list hx
    have hlen := r.length
    show wpAny (model X.prog X.w) X.A (subscriptTail e (.Slice none none (some (.UnaryOp .USub (.Constant (.int 1) k p1) p2)) p3) (.ref a) (.ref s4.heap.objs.size)) (EP X pins σ Q) X.xe { s4 with heap := s4.heap.push { cls := .type "slice", data := .fields #[vl, vu, vs] } }
    refine tail_any (ops := [.ref a, .ref s4.heap.objs.size]) ht.isList.typeIs (PySem.slot_list_getitem.lookup) ?_ (by with_unfolding_all rfl)
    refine wpAny_getItem_list_slice ht.isList (Heap.IsSliceOf.new _ vl vu vs) pl pu ps (by decide) ?_ (by rw [List.size_toArray]; omega)
    rw [PySem.W.krv_pick]
    refine ⟨.ref _, _, I5.laid (t' := s4.toks) (o := .lst xs.reverse) (fun b ob q => Heap.get?_push_of_some _ q) (Nat.le_refl _) ?_, rfl, q _ (I5.hok.fresh (Nat.le_refl _))⟩
    exact ⟨by rw [List.length_reverse]; exact hz, _, 0, r.reverse, Heap.get?_push_size _ rfl⟩
def fRev : PF
  | [.tup ds] => some (.tup ds.reverse)
  | [.lst ds] => some (.lst ds.reverse)
  | _ => none
theorem fr_rev {G : Gb} : PrimFr G (rL1 (rRevA G.K)) fRev := by
  intro rho F H vs ds d Q s hr hf q
  unfold fRev at hf
  split at hf
  · cases hf
    obtain ⟨v, rfl, h1⟩ := repBL1 hr
    obtain ⟨a, xs, rfl, t, z, l⟩ := repB_tup s h1
    refine .inl ⟨a, xs, rfl, t, fun p hp => ?_⟩
    have g := Grow.alloc (o := .tup xs.reverse) s hp
    exact q _ _ _ g (.tup (.of upd_same) (fun _ => upd_same) (by rw [List.length_reverse]; exact z) (l.reverse.mono (g.sub s) (Pre.refl _)))
  · cases hf
    obtain ⟨v, rfl, h1⟩ := repBL1 hr
    obtain ⟨a, xs, rfl, t, z, l⟩ := repB_lst s h1
    exact .inr ⟨a, xs, rfl, t, fun p hp => q p _ H F (Grow.refl s) hp (by rw [List.length_reverse]; exact z) l.reverse⟩
  · cases hf
theorem sem_rev {e : Expr} {o : Opr} {k : Nat} {p1 p2 p3 pos : Pos} (ho : OpE X W ent e o) : PE X (.Subscript e (.Slice none none (some (.UnaryOp .USub (.Constant (.int 1) k p1) p2)) p3) pos) (rdE X.gb W ent (bPrim fRev [o])) :=
  (pe_revT ho).weak fun σ H Q h => prim_of fr_rev.ok h
end
end TM
namespace TM
open PySem PySem.Spec L2
open PyProof.Rows hiding St

/-! a def from its text -/
section
variable {P : Program} {w : World} {K : PySem.W.Frag} {mg : Str → Option Value} {base : Heap} {k : Nat}
theorem FnAt.mono {j : Nat} {x : Str} {i : FnI} (h : FnAt P w K mg base j x i) (hk : j ≤ k) : FnAt P w K mg base k x i := by
  obtain ⟨f, fd, dvs, dus, h1, h2, h3, h4⟩ := h.ex
  exact ⟨f, fd, dvs, dus, h1, h2, h3.mono hk, h4⟩
/-- the context of a def's text, as the promise gives it -/
theorem Dx.mk' {Z : En} {N : List Str} {sc : Scope} {X : Cx} {W : WX} (hN : X.N = N) (hs : X.env.scope = sc) (g : Gf X k) (t : Takes X W) (h1 : X.prog = Z.P) (h2 : X.w = Z.w) (h3 : X.K = Z.K) (h4 : X.mg = Z.mg) (h5 : X.base = Z.base) : Dx Z N sc k X W := ⟨⟨g.toGd, hN, hs, funext g.fn, t, h1, h2, h3, h4, h5⟩, g.po, g.stk, g.fr⟩
theorem fnG_fun {x qual : Str} {st : Stmt} {f : Addr} {fd : FuncData} {N ps : List Str} {m : Sm} (F : L2.Fun K x qual st f fd) (S : FnScope N ps (defScope st))
    (hb : ∀ (X : Cx) (W : WX) (ent : Ent), Dx ⟨P, w, K, mg, base⟩ N (defScope st) k X W → PSs X (defBody st) (rdS X.gb W ent m)) : FnG P w K mg base (k + 1) f fd ps (spD ⟨K, mg⟩ ps.length (fsem N.length m)) := by
  obtain ⟨oc, od, kV, doc, pm, an, cdv, ct, osl, rfl, lk, hcd⟩ := F.ex
  exact fnG_of lk hcd S fun X W ent h1 h2 h3 h4 h5 h6 h7 g t => hb X W ent (Dx.mk' h6 h7 g t h1 h2 h3 h4 h5)
/-- .. with positional parameters alone -/
theorem fnAt_fun {x qual : Str} {st : Stmt} {f : Addr} {fd : FuncData} {N ps : List Str} {m : Sm} (F : L2.Fun K x qual st f fd) (g : mg x = some (.ref f)) (S : FnScope N ps (defScope st)) (arr : List Src) (hl : arr.length = ps.length)
    (hbind : ∀ (kV doc pm : Value) (an : Option Addr) (cdv ct : Value) (us : List Value), us.length = ps.length → bindArgs (PySem.W.fnOf x qual (defArgs st) (defBody st) (defScope st) .none kV doc pm an cdv ct) ⟨us, []⟩ = pure (ps.zip us))
    (harr : ∀ us : List Value, us.length = ps.length → fill .none us [] [] arr = us)
    (hb : ∀ (X : Cx) (W : WX) (ent : Ent), Dx ⟨P, w, K, mg, base⟩ N (defScope st) k X W → PSs X (defBody st) (rdS X.gb W ent m)) : FnAt P w K mg base (k + 1) x ⟨ps, fsem N.length m, [], [(ps.length, [], arr)]⟩ := by
  refine ⟨f, fd, [], [], g, F.kp, fnG_fun F S hb, .nil, fun _ _ => .nil, fun sh hs => ?_⟩
  rw [List.mem_singleton] at hs
  subst hs
  refine ⟨hl, fun s us ws _ hu hw => ?_⟩
  have hw0 : ws = [] := List.eq_nil_of_length_eq_zero hw
  subst hw0
  obtain ⟨oc, od, kV, doc, pm, an, cdv, ct, osl, rfl, lk, hcd⟩ := F.ex
  have hz := harr us hu
  show BindsTo s _ ⟨us, []⟩ (ps.zip (fill .none us [] [] arr))
  rw [hz]
  exact .of_eq (hbind kV doc pm an cdv ct us hu)
end

/-! the law -/
theorem cx_no {P : Program} {w : World} {H : Hp} {s : Shared} {e : Value} {s' : Shared} (h : L2.CX P w [] H s (fun _ _ _ => False) e s') : False := by
  unfold L2.CX at h
  simp at h
/-- at the heap behind the top -/
theorem law_at {P : Program} {w : World} {K : PySem.W.Frag} {mg mb : Str → Option Value} {k : Nat} {fa a : Addr} {fd : FuncData} {x : Str} {sem : Fsem} {t : Shared} {us : List Value} {ns : List Int}
    (kin : K.In t.heap) (ng : t.heap.Ns mainGlobals mg) (nb : t.heap.Ns builtinsNs mb) (boot : ∀ y : Str, y ≠ "__name__" → mb y = bootBuiltins y) (lim : t.heap.NoLimit) (g0 : t.gens = #[])
    (obj : t.heap.get? a = some { cls := .type "list", data := .seq us.toArray }) (isi : IntsAre us ns) (len : ns.length ≤ sizeLine) (room : Room k callerA)
    (fn : ∀ base : Heap, K.In base → base.Ns mainGlobals mg → FnG P w K mg base k fa fd [x] (spD ⟨K, mg⟩ 1 sem)) (bind : ∀ (s : Shared) (u : Value), BindsTo s fd ⟨[u], []⟩ [(x, u)])
    (good : ∃ S, sem [.lst (ns.map .int)] [] = .ok (.val (.bl true)) [] S) :
    codeAny (model P w) callerA (.call (.ref fa) ⟨[.ref a], []⟩) (fun r s2 => r = .ok (.ret (.bool true)) ∧ OldK t.heap s2.heap ∧ s2.os = t.os ∧ AllBare s2.gens) t := by
  have rel := vals_ints isi
  have lens := isi.length
  have main : ∀ T : Hp, SqL K T a (ns.map V.int) → (∀ b, T b = none ∨ ∃ o ys, T b = some (.frz o (.lst ys))) → HOk P w T t.heap → (∀ b, T b ≠ none → b = a) → (T a ≠ none → K.lookup a = none) →
      codeAny (model P w) callerA (.call (.ref fa) ⟨[.ref a], []⟩) (fun r s2 => r = .ok (.ret (.bool true)) ∧ OldK t.heap s2.heap ∧ s2.os = t.os ∧ AllBare s2.gens) t := by
    intro T sq only tok only_a no_k
    have free : ∀ {b : Addr} {o : Obj} {es : Array DictEntry} {ep : Nat}, t.heap.get? b = some o → o.data = .dict es ep → T b = none := fun {b o es ep} e1 e2 => by
      cases q : T b with
      | none => rfl
      | some _ =>
        cases only_a b (by simp [q])
        rw [obj] at e1
        cases e1
        exact nomatch (show Data.seq us.toArray _ = Data.dict es ep from e2)
    have nsT : ∀ {b : Addr} {m : Str → Option Value}, t.heap.Ns b m → (hidT t.heap T).Ns b m := fun ⟨o, es, ep, e1, e2, e3⟩ => ⟨o, es, ep, hidT_get e1 (free e1 e2), e2, e3⟩
    have kT : K.In (hidT t.heap T) := fun b o e1 => hidT_get (kin b o e1) (by
      cases q : T b with
      | none => rfl
      | some _ =>
        cases only_a b (by simp [q])
        rw [no_k (by simp [q])] at e1
        cases e1)
    have md : Mod K mg (hidT t.heap T) := ⟨kT, nsT ng, ⟨mb, nsT nb, boot⟩, lim.elim fun mc h => ⟨mc, nsT h.1, h.2⟩⟩
    have env : Env0 P w K mg (hidT t.heap T) callerA [] t T := ⟨rfl, md, fun b o q => of_hidT q, Nat.le_of_eq (hidT_size _ _), trivial, (fun b q => nomatch (show b ∈ ([] : List Addr) from q)), tok, .of_eq g0⟩
    have hsp : spD ⟨K, mg⟩ 1 sem [.ref a] T (fun v _ => v = .bl true) (fun _ _ _ => False) := by
      obtain ⟨S, hS⟩ := good
      have ri : ∀ l : List Int, RepL ⟨K, mg⟩ [] T (l.map V.int) (l.map D.int) := fun l => by
        induction l with
        | nil => exact .nil
        | cons i l ih => exact .cons (.int i) ih
      refine ⟨rfl, [.lst (ns.map .int)], [], T, [], .cons (.lst sq (by rw [List.length_map]; exact len) (ri ns)) .nil, ⟨Sub.refl _, rfl, fun n o b h => by simp at h, List.nodup_nil⟩, ?_⟩
      rw [hS]
      intro v H' F' rho' _ _ h
      exact repB_bl (H := H') (.inl (show Rep _ _ _ _ _ from h))
    refine codeAny_mono ((fn _ kT (nsT ng)).run callerA [] t T ⟨[.ref a], []⟩ [.ref a] [.ref a] _ _ room rfl env (bind t (.ref a)) (.cons rfl .nil) hsp) fun r s2 h => ?_
    cases r with
    | error e => exact (cx_no h).elim
    | ok fl =>
      cases fl with
      | next => exact h.elim
      | brk => exact h.elim
      | cont => exact h.elim
      | ret u =>
        obtain ⟨v, T2, os2, bare2, un, tok2, rv, hv⟩ := h
        cases (show v = .bl true from hv)
        cases (show u = Value.bool true from rv)
        refine ⟨rfl, OldK.of_keep fun b o q => ?_, os2, bare2⟩
        cases q2 : T b with
        | none => exact un.keep b o q q2 (fun z => nomatch (show b ∈ ([] : List Addr) from z)) (by simp)
        | some _ =>
          rcases only b with z | ⟨ob, ys, z⟩
          · rw [q2] at z; cases z
          · obtain ⟨y1, _⟩ := tok b _ z
            obtain ⟨y2, _⟩ := tok2 b _ (un.frzs b ob _ z)
            rw [q] at y1
            cases y1
            exact y2
  cases hk : K.lookup a with
  | some o =>
    have same := kin a o hk
    rw [obj] at same
    cases same
    exact main (fun _ => none) (.inr ⟨_, us.toArray, _, hk, rfl, rfl, rfl, by rw [List.size_toArray, lens]; exact len, by simpa using rel⟩) (fun _ => .inl rfl) (fun b u z => nomatch (show (none : Option HO) = some u from z)) (fun b z => absurd rfl z) fun z => absurd rfl z
  | none =>
    refine main (fun b => if b = a then some (.frz { cls := .type "list", data := .seq us.toArray } (.lst (ns.map V.int))) else none) (.inl (.inr ⟨{ cls := .type "list", data := .seq us.toArray }, if_pos rfl⟩)) (fun b => ?_) (fun b u z => ?_) (fun b z => ?_) fun _ => hk
    · by_cases e : b = a
      · exact .inr ⟨_, _, if_pos e⟩
      · exact .inl (if_neg e)
    · by_cases e : b = a
      · have z2 := (if_pos e).symm.trans z
        cases z2
        subst e
        exact ⟨obj, by rw [List.length_map]; exact len, us, _, rel, obj⟩
      · exact nomatch (if_neg e).symm.trans z
    · by_cases e : b = a
      · exact e
      · exact absurd (if_neg e) z
/-- what k_head leaves -/
theorem law_walk {l : PySem.W.OpenLaw} {n k : Nat} {q : Program} {loose : List Str} {XP : (Str → Option Value) → Heap → Prop} {YP : World → Heap → Prop} {d : DefRec} {K : Params → PySem.W.Frag} {x : Str} {sem : Fsem}
    (most : l.most = some n) (small : n ≤ sizeLine) (dfl : d.params.defaults = []) (room : Room k callerA) (kin : ∀ (w : World) (h : Heap), YP w h → (K w.params).In h)
    (fn : ∀ (w : World) (mg : Str → Option Value) (fa : Addr) (h : Heap), (K w.params).In h → h.Ns mainGlobals mg → mg d.name = some (.ref fa) → ∃ fd : FuncData, (∀ (s : Shared) (u : Value), BindsTo s fd ⟨[u], []⟩ [(x, u)]) ∧
      ∀ base : Heap, (K w.params).In base → base.Ns mainGlobals mg → FnG l.prog w (K w.params) mg base k fa fd [x] (spD ⟨K w.params, mg⟩ 1 sem))
    (good : ∀ ns : List Int, ns.length ≤ n → ∃ S, sem [.lst (ns.map .int)] [] = .ok (.val (.bl true)) [] S) :
    PySem.W.WalkO q loose XP YP l.row.toRowW d [] (fun f vs => PySem.call f vs) :=
  Att.attach_call most dfl fun w _ t mg _ fa o _ _ _ a us ns G Y _ _ _ hmg obj isi len g0 => by
    obtain ⟨fd, hb, hF⟩ := fn w mg fa _ (kin w _ Y) G.T.g hmg
    exact law_at (kin w _ Y) G.T.g G.T.b G.T.builtins G.T.nolimit g0 obj isi (Nat.le_trans len small) room hF hb (good ns len)
end TM
namespace TM
open PySem PySem.Spec L2
open PyProof.Rows hiding St

/-! lists of the store: such as are written within others -/
section
variable {G : Gb} {W : WX} {ent : Ent} {e : Env} {S : Sto} {σ : L2.St} {H F : Hp} {rho : List Addr}
theorem upd_self {H : Hp} {p : Addr} {o : HO} (h : H p = some o) : upd H p o = H := by
  funext a
  by_cases e : a = p
  · subst e; rw [upd_same, h]
  · rw [upd_ne e]
theorem R.pub (r : R G ent e S σ H F rho) {v : V} {ds : List D} (h : WRep G ent rho F H e σ v (.own ds)) : ∃ a, v = .ref a ∧ R G ent e (S ++ [.lst ds]) σ H F (rho ++ [a]) := by
  obtain ⟨a, e1, ⟨xs, h1, z, l⟩, h3, h4, h5, h6⟩ := h.own_of rfl
  have := r.newS (o := .lst xs) h3 h5 h4 (fun i t hi ht => h6 i t hi ht) (.lst ds) ⟨xs, upd_same, z, l.mono (Sub.refl _) (Pre.snoc rho a)⟩
  rw [upd_self h1] at this
  exact ⟨a, e1, this⟩
/-- what is made is put into the store -/
def ePub (m : Wx) : Ex := fun e S => (m e S).bind fun s e S => match s with
  | .own ds => .ok (.ref S.length) e (S ++ [.lst ds])
  | _ => .stuck
theorem rdE_pub {σ : L2.St} {H : Hp} {Q : VK} {m : Wx} (h : rdE G W ent (ePub m) σ H Q) : rdW G W ent m σ H Q := by
  obtain ⟨e, S, F, rho, hR, hp⟩ := h
  refine ⟨e, S, F, rho, hR, ?_⟩
  unfold ePub at hp
  cases q : m e S with
  | ok s e1 S1 =>
    rw [q] at hp
    intro v H' F' rho' r sb p k
    cases s with
    | own ds =>
      obtain ⟨a, rfl, r2⟩ := r.pub k
      refine hp _ H' F' _ r2 sb (p.trans (Pre.snoc rho' a)) (.ref ?_)
      rw [r.slen, List.getElem?_append_right (Nat.le_refl _), Nat.sub_self]
      rfl
    | val _ => exact hp.elim
    | ownd _ => exact hp.elim
    | ownt _ => exact hp.elim
  | exc x e1 S1 => rw [q] at hp; exact hp
  | stuck => rw [q] at hp; exact hp
theorem sem_pub {X : Cx} {a : Expr} {m : Wx} (h : PE X a (rdW X.gb W ent m)) : PE X a (rdE X.gb W ent (ePub m)) := h.weak fun σ H Q q => rdE_pub q
def lstAt (S : Sto) (d : D) : Option (List D) := match d with
  | .ref n => match S[n]? with
    | some (.lst ds) => some ds
    | _ => none
  | _ => none
theorem lstAt_of {d : D} {ds : List D} (h : lstAt S d = some ds) : ∃ n, d = .ref n ∧ S[n]? = some (.lst ds) := by
  unfold lstAt at h
  split at h
  · split at h
    · cases h; exact ⟨_, rfl, by assumption⟩
    · cases h
  · cases h
def lGetS (S : Sto) (d k : D) : Option D := match lstAt S d with
  | some ds => match k with
    | .int i => atI ds i
    | _ => none
  | none => none
theorem lGetS_of {d k v : D} (h : lGetS S d k = some v) : ∃ n ds i, d = .ref n ∧ S[n]? = some (.lst ds) ∧ k = .int i ∧ atI ds i = some v := by
  unfold lGetS at h
  split at h
  · split at h
    · obtain ⟨n, h1, h2⟩ := lstAt_of (by assumption)
      exact ⟨n, _, _, h1, h2, rfl, h⟩
    · cases h
  · cases h
def lPutS (S : Sto) (d k v : D) : Option Sto := match d with
  | .ref n => match S[n]? with
    | some (.lst ds) => match k with
      | .int i => match ixN ds.length i with
        | some j => some (S.set n (.lst (ds.set j v)))
        | none => none
      | _ => none
    | _ => none
  | _ => none
theorem lPutS_of {S' : Sto} {d k v : D} (h : lPutS S d k v = some S') : ∃ n ds i j, d = .ref n ∧ S[n]? = some (.lst ds) ∧ k = .int i ∧ ixN ds.length i = some j ∧ S' = S.set n (.lst (ds.set j v)) := by
  unfold lPutS at h
  split at h
  · split at h
    · split at h
      · split at h
        · cases h; exact ⟨_, _, _, _, rfl, by assumption, rfl, by assumption, rfl⟩
        · cases h
      · cases h
    · cases h
  · cases h
def bIxL (md mk : Ex) : Ex := fun e S => (md e S).bind fun d e S => (mk e S).bind fun k e S => match lGetS S d k with
  | some v => .ok v e S
  | none => .stuck
def sPutS (md mk mv : Ex) : Sm := fun e S => (mv e S).bind fun v e S => (md e S).bind fun d e S => (mk e S).bind fun k e S => match lPutS S d k v with
  | some S' => .ok .next e S'
  | none => .stuck
theorem R.list {n : Nat} {a : Addr} {ds : List D} (r : R G ent e S σ H F rho) (h1 : S[n]? = some (.lst ds)) (h2 : rho[n]? = some a) : ∃ xs, H a = some (.lst xs) ∧ xs.length ≤ sizeLine ∧ RepL G rho F xs ds := (r.sto n _ a h1 h2).1
end
section
variable {X : Cx} {W : WX} {ent : Ent} {pos : Pos}
theorem sem_ixL {o i : Expr} {md mk : Ex} (ho : PE X o (rdE X.gb W ent md)) (hi : PE X i (rdE X.gb W ent mk)) (hs : PlainIx i := by intro _ _; rfl) : PE X (.Subscript o i pos) (rdE X.gb W ent (bIxL md mk)) :=
  (pe_ix ix_list ho hi hs).weak fun σ H Q ⟨e, S, F, rho, hR, hp⟩ => by
    refine ⟨e, S, F, rho, hR, ?_⟩
    unfold bIxL at hp
    cases q : md e S with
    | ok d e1 S1 =>
      rw [q] at hp
      intro v H1 F1 rho1 r1 s1 p1 rep1
      refine ⟨e1, S1, F1, rho1, r1, ?_⟩
      replace hp : postE X.gb W ent σ F rho Q ((mk e1 S1).bind fun k e S => match lGetS S d k with
        | some v => .ok v e S
        | none => .stuck) := hp
      cases q2 : mk e1 S1 with
      | ok ky e2 S2 =>
        rw [q2] at hp
        intro y H2 F2 rho2 r2 s2 p2 rep2
        replace hp : postE X.gb W ent σ F rho Q (match lGetS S2 d ky with
          | some v => .ok v e2 S2
          | none => .stuck) := hp
        cases hd : lGetS S2 d ky with
        | none => rw [hd] at hp; exact hp.elim
        | some w =>
          rw [hd] at hp
          obtain ⟨n, ds, i, rfl, hn, rfl, hw⟩ := lGetS_of hd
          obtain ⟨a, rfl, ha⟩ := rep_ref rep1
          cases rep_int rep2
          obtain ⟨xs, h1, z, l⟩ := r2.list hn (p2 _ _ ha)
          obtain ⟨x, hx, rx⟩ := atI_rep l hw
          exact ⟨a, xs, i, x, rfl, rfl, .of h1, hx, hp x H2 F2 rho2 r2 (s1.trans s2) (p1.trans p2) rx⟩
      | exc x e2 S2 => rw [q2] at hp; exact postX.mono s1 p1 hp
      | stuck => rw [q2] at hp; exact hp.elim
    | exc x e1 S1 => rw [q] at hp; exact hp
    | stuck => rw [q] at hp; exact hp
theorem semS_putS {o ix value : Expr} {md mk mv : Ex} {pos' : Pos} (ho : PE X o (rdE X.gb W ent md)) (hi : PE X ix (rdE X.gb W ent mk)) (hx : PE X value (rdE X.gb W ent mv))
    (ha : ∀ v, assign (.Subscript o ix pos') X.env v = (do
      let ov ← holding [v] (eval o X.env)
      let iv ← holding [v, ov] (eval ix X.env)
      standAt pos'
      holding [v, ov, iv] (setItem ov iv v)
      release [v, ov, iv] []) := by intro _; rfl)
    (hs : swapsWithSole [.Subscript o ix pos'] value pos.line X.env = pure false := by rfl) (hw : swappedStores [.Subscript o ix pos'] value X.env = pure none := by rfl)
    (h1 : (assignEach [.Subscript o ix pos'] X.env).map (·.2) = [assign (.Subscript o ix pos') X.env] := by rfl) :
    PS X (.Assign [.Subscript o ix pos'] value pos) (rdS X.gb W ent (sPutS md mk mv)) :=
  (ps_asg hx (pg_sub ho hi set_list ha) hs hw h1).weak fun Dn σ H ⟨e, S, F, rho, hR, hp⟩ => by
    refine ⟨e, S, F, rho, hR, ?_⟩
    unfold sPutS at hp
    cases q : mv e S with
    | ok dv e0 S0 =>
      rw [q] at hp
      intro v H0 F0 rho0 r0 s0 p0 rep0
      refine ⟨e0, S0, F0, rho0, r0, ?_⟩
      replace hp : postS X.gb W ent F rho Dn ((md e0 S0).bind fun d e S => (mk e S).bind fun k e S => match lPutS S d k dv with
        | some S' => .ok .next e S'
        | none => .stuck) := hp
      cases q1 : md e0 S0 with
      | ok d e1 S1 =>
        rw [q1] at hp
        intro w H1 F1 rho1 r1 s1 p1 rep1
        refine ⟨e1, S1, F1, rho1, r1, ?_⟩
        replace hp : postS X.gb W ent F rho Dn ((mk e1 S1).bind fun k e S => match lPutS S d k dv with
          | some S' => .ok .next e S'
          | none => .stuck) := hp
        cases q2 : mk e1 S1 with
        | ok ky e2 S2 =>
          rw [q2] at hp
          intro y H2 F2 rho2 r2 s2 p2 rep2
          replace hp : postS X.gb W ent F rho Dn (match lPutS S2 d ky dv with
            | some S' => .ok .next e2 S'
            | none => .stuck) := hp
          cases hd : lPutS S2 d ky dv with
          | none => rw [hd] at hp; exact hp.elim
          | some S' =>
            rw [hd] at hp
            obtain ⟨n, ds, i, j, rfl, hn, rfl, hj, rfl⟩ := lPutS_of hd
            obtain ⟨a, rfl, ha⟩ := rep_ref rep1
            cases rep_int rep2
            obtain ⟨xs, h1, z, l⟩ := r2.list hn (p2 _ _ ha)
            refine ⟨a, xs, i, j, rfl, rfl, h1, by rw [l.length]; exact hj, ?_⟩
            exact hp σ _ F2 rho2 (r2.upSto hn (p2 _ _ ha) (.lst (ds.set j dv)) ⟨_, upd_same, by rw [List.length_set]; exact z, l.set (rep0.mono (s1.trans s2) (p1.trans p2)) j⟩) ((s0.trans s1).trans s2) ((p0.trans p1).trans p2)
        | exc x e2 S2 => rw [q2] at hp; exact postX.mono (s0.trans s1) (p0.trans p1) (hp σ)
        | stuck => rw [q2] at hp; exact hp.elim
      | exc x e2 S2 => rw [q1] at hp; exact postX.mono s0 p0 (hp σ)
      | stuck => rw [q1] at hp; exact hp.elim
    | exc x e1 S1 => rw [q] at hp; exact hp σ
    | stuck => rw [q] at hp; exact hp
/-- never reached -/
def sNo : Sm := fun _ _ => .stuck
theorem semS_no {st : Stmt} : PS X st (rdS X.gb W ent sNo) := ⟨fun pins s σ H Dn I ⟨e, S, F, rho, hR, hp⟩ => hp.elim⟩
def xNo : Ex := fun _ _ => .stuck
theorem sem_no {x : Expr} : PE X x (rdE X.gb W ent xNo) := ⟨fun pins s σ H Q I ⟨e, S, F, rho, hR, hp⟩ => hp.elim⟩
end
end TM
namespace TM
open PySem PySem.Spec L2
open PyProof.Rows hiding St

/-! short words for printed proofs -/
def isFnK : ScopeKind → Bool
  | .function => true
  | _ => false
theorem isFnK_of {k : ScopeKind} (h : isFnK k = true) : k = .function := by cases k <;> first | rfl | cases h
def isStar : Expr → Bool
  | .Starred _ _ => true
  | _ => false
def swNames (sc : Scope) (ts : List Expr) : List Str := ts.filterMap fun
    | .Name id pos => if sc.names.lookup id == some .local && pos.line == (ts.head?.map (·.pos.line)).getD 0 then some id else none
    | _ => none
def swC (sc : Scope) (ts vs : List Expr) : Option (Option (List Str)) :=
  if isFnK sc.kind = true then
    if (!(ts.length == 2 || ts.length == 3) || vs.length != ts.length) = true then some none
    else if (vs.any fun | .Starred .. => true | _ => false) = true then some none
    else if ((swNames sc ts).length != ts.length || (swNames sc ts).eraseDups.length != (swNames sc ts).length) = true then some none
    else if vs.all (foldedForSure 8) = true then some none
    else if vs.all (constantsAlone 8) = true then none else some (some (swNames sc ts))
  else none
theorem sw_of {sc : Scope} {env : PySem.Env} {ts vs : List Expr} {kt k2 pt pt2} {r : Option (List Str)} (h : swC sc ts vs = some r) (he : env.scope = sc) : swappedStores [.Tuple ts kt pt] (.Tuple vs k2 pt2) env = pure r := by
  subst he
  unfold swC at h
  split at h
  · rename_i hk
    have hb : env.blockKind = .function := by unfold PySem.Env.blockKind; rw [isFnK_of hk]; rfl
    unfold swappedStores
    simp only [hb]
    have e0 : (ScopeKind.function != ScopeKind.function) = false := rfl
    rw [e0, Bool.or_false]
    split at h
    · rename_i h1
      cases h
      exact if_pos h1
    · rename_i h1
      refine (if_neg h1).trans ?_
      split at h
      · rename_i h2
        cases h
        exact if_pos h2
      · rename_i h2
        refine (if_neg h2).trans ?_
        split at h
        · rename_i h3
          cases h
          exact if_pos h3
        · rename_i h3
          refine (if_neg h3).trans ?_
          split at h
          · rename_i h4
            cases h
            exact if_pos h4
          · rename_i h4
            refine (if_neg h4).trans ?_
            split at h
            · cases h
            · rename_i h5
              cases h
              exact if_neg h5
  · cases h
theorem sw_cell {elt : Expr} {gs : List Comprehension} {scope : Scope} {pos py : Pos} {y : Str} {l : Nat} {env : PySem.Env} (hy : env.scope.names.lookup y = some .cell) : swapsWith (.ListComp elt gs scope pos) (some (.Name y py)) l env = pure false := by
  have ky : env.kindOf y = some .cell := hy
  unfold swapsWith
  simp only [ky]
  have : (some NameKind.cell == some NameKind.local) = false := rfl
  simp only [this, Bool.and_false, Bool.false_and]
def negF : PF
  | [.int i] => some (.int (-i))
  | _ => none
theorem ok_neg {G : Gb} : PrimOk G (rL1 (rU fun i => .int (-i))) negF := by
  intro rho F H vs ds d Q s hr hf q
  unfold negF at hf
  split at hf
  · cases hf
    obtain ⟨v, rfl, h1⟩ := repBL1 hr
    cases repB_int h1
    exact ⟨_, rfl, q _ H F (Grow.refl s) (.int _)⟩
  · cases hf
def cOk (N : List Str) (sc : Scope) (i : Nat) (y : Str) : Bool := decide (N[i]? = some y) && (match sc.names.lookup y with | some .cell => true | _ => false)
section
variable {X : Cx} {W : WX} {ent : Ent} {Z : En} {N : List Str} {sc : Scope} {fs : Str → Bool} {k : Nat} {pos p pt pt2 : Pos}
theorem hu200 (c : Bx Z N sc fs k X W) : X.A.units + 200 < cLine := by have := c.room.un; omega
theorem hu64 (c : Bx Z N sc fs k X W) : X.A.units + 64 < cLine := by have := c.room.un; omega
theorem hu65 (c : Bx Z N sc fs k X W) : X.A.units + 65 < cLine := by have := c.room.un; omega
theorem hu66 (c : Bx Z N sc fs k X W) : X.A.units + 66 < cLine := by have := c.room.un; omega
theorem hu1 (c : Bx Z N sc fs k X W) : X.A.units + 1 < cLine := by have := c.room.un; omega
theorem xg {y : Str} {v : V} {d : D} (c : Bx Z N sc fs k X W) (hg : gOk sc y = true) (h : ∃ u, Z.mg y = some u ∧ RelV v u) (r : ∀ rho F, Rep X.gb rho F v d) : PE X (.Name y pos) (rdE X.gb W ent (bC d)) := by
  obtain ⟨u, h1, h2⟩ := h
  exact sem_const (pe_glob (Gl.of c hg) (by rw [c.hm]; exact h1) h2 (gOk_debug hg)) r
theorem xcall {x : Str} {i : FnI} {es : List Expr} {kws : List Keyword} {ms kms : List Ex} {arr : List Src} (c : Bx Z N sc fs k X W) (fa : FnAt Z.P Z.w Z.K Z.mg Z.base k x i) (hg : gOk sc x = true)
    (hsh : (es.length, kws.filterMap (·.arg), arr) ∈ i.shapes) (ha : OpsE X W ent es (ms.map .ex)) (hk : KwE X W ent kws kms) (hpl : es.all plainA = true := by rfl) (hkw : kws.all kwName = true := by rfl) (hlen : es.length = ms.length := by rfl) :
    PE X (.Call (.Name x p) es kws pos) (rdW X.gb W ent (wCall i.sem i.dfl arr ms kms)) :=
  semW_call c.toGd c.tk (by rw [c.hP, c.hw, c.hK, c.hm, c.hb]; exact fa) (Gl.of c hg) (gOk_debug hg) hsh hpl hkw ha hlen hk
theorem sset {value : Expr} {m : Wx} {y : Str} {pos' : Pos} (c : Bx Z N sc fs k X W) (i : Nat) (h : tOk N sc fs i y = true) (hx : PE X value (rdW X.gb W ent m)) (hs : swapsWith value (some (.Name y pos')) pos.line X.env = pure false := by rfl) :
    PS X (.Assign [.Name y pos'] value pos) (rdS X.gb W ent (sSet i m)) := by
  unfold tOk at h; simp only [Bool.and_eq_true, decide_eq_true_eq] at h
  refine semS_set hx c.nd (by rw [c.n]; exact h.1) (by unfold L2.Loc; rw [c.s]; exact isLoc_of h.2.1) ?_ hs
  have := h.2.2
  rw [Bool.or_eq_true] at this
  rcases this with q | q
  · exact .inl (by rw [c.f]; exact q)
  · exact .inr (by rw [c.s]; exact isL_of q)
theorem sw_cell' {elt : Expr} {gs : List Comprehension} {scope : Scope} {py : Pos} {y : Str} {l i : Nat} (c : Bx Z N sc fs k X W) (h : cOk N sc i y = true) : swapsWith (.ListComp elt gs scope pos) (some (.Name y py)) l X.env = pure false := by
  unfold cOk at h
  rw [Bool.and_eq_true] at h
  have h2 := h.2
  refine sw_cell ?_
  rw [c.s]
  split at h2
  · assumption
  · cases h2
def swOk (sc scope : Scope) (y : Str) (py pos : Pos) : Bool := isFnK sc.kind && ((py.line == pos.line) && !(scope.names.any fun (n, k) => n == y && (k == .local || k == .cell)))
theorem sw_lc {elt : Expr} {gs : List Comprehension} {scope : Scope} {py : Pos} {y : Str} {l i : Nat} (c : Bx Z N sc fs k X W) (hy : lOk N sc i y = true) (h : swOk sc scope y py pos = true) : swapsWith (.ListComp elt gs scope pos) (some (.Name y py)) l X.env = pure true := by
  unfold swOk at h; simp only [Bool.and_eq_true] at h
  unfold lOk at hy; simp only [Bool.and_eq_true] at hy
  exact sw_true (by rw [c.s]; exact isFnK_of h.1) (by rw [c.s]; exact isL_of hy.2) h.2.1 (by simpa using h.2.2)
theorem nOk {i : Nat} {y : Str} (c : Bx Z N sc fs k X W) (h : lOk N sc i y = true) : X.N[i]? = some y ∧ X.env.scope.names.lookup y = some .local := by
  unfold lOk at h; simp only [Bool.and_eq_true, decide_eq_true_eq] at h
  exact ⟨by rw [c.n]; exact h.1, by rw [c.s]; exact isL_of h.2⟩
theorem spar2 {x y : Str} {a b : Expr} {m n : Wx} {px py : Pos} {kt k2} (c : Bx Z N sc fs k X W) (i j : Nat) (hij : i ≠ j) (hi : lOk N sc i x = true) (hj : lOk N sc j y = true) (ha : WxE X W [a, b] [m, n])
    (hw : swC sc [.Name x px, .Name y py] [a, b] = some (some [x, y])) : PS X (.Assign [.Tuple [.Name x px, .Name y py] kt pt] (.Tuple [a, b] k2 pt2) pos) (rdS X.gb W ent (sPar [i, j] [m, n])) :=
  semS_par2 c.calm c.nd (nOk c hi).1 (nOk c hj).1 hij (nOk c hi).2 (nOk c hj).2 ha (sw_of hw c.s)
theorem spar3 {x y z : Str} {a b d : Expr} {m n o : Wx} {px py pz : Pos} {kt k2} (c : Bx Z N sc fs k X W) (i j l : Nat) (hij : i ≠ j) (hil : i ≠ l) (hjl : j ≠ l) (hi : lOk N sc i x = true) (hj : lOk N sc j y = true) (hl : lOk N sc l z = true) (ha : WxE X W [a, b, d] [m, n, o])
    (hw : swC sc [.Name x px, .Name y py, .Name z pz] [a, b, d] = some (some [x, y, z])) : PS X (.Assign [.Tuple [.Name x px, .Name y py, .Name z pz] kt pt] (.Tuple [a, b, d] k2 pt2) pos) (rdS X.gb W ent (sPar [i, j, l] [m, n, o])) :=
  semS_par3 c.calm c.nd (nOk c hi).1 (nOk c hj).1 (nOk c hl).1 hij hil hjl (nOk c hi).2 (nOk c hj).2 (nOk c hl).2 ha (sw_of hw c.s)
theorem sparT {ts es : List Expr} {is : List Nat} {ms : List Wx} {kt k2} (c : Bx Z N sc fs k X W) (hg : PGs X ts (gNames is)) (ha : WxE X W es ms) (hw : swC sc ts es = some none) (hl : is.length = ms.length := by rfl) (hz : ms.length ≤ sizeLine := by decide) (hls : ts.length = is.length := by rfl)
    (hn : (assignEach ts X.env).length = is.length := by rfl) (hst : (assignEach ts X.env).findIdx? (·.1) = none := by rfl) (hm : (assignEach [.Tuple ts kt pt] X.env).map (·.2) = [assign (.Tuple ts kt pt) X.env] := by rfl) :
    PS X (.Assign [.Tuple ts kt pt] (.Tuple es k2 pt2) pos) (rdS X.gb W ent (sPar is ms)) :=
  semS_parT c.calm hl hz hg ha hls hn hst (sw_of hw c.s) hm
theorem wxc {x : Expr} {m : Wx} {es : List Expr} {ms : List Wx} (h : ∀ ent, PE X x (rdW X.gb W ent m)) (t : WxE X W es ms) (hp : plainA x = true := by rfl) : WxE X W (x :: es) (m :: ms) := .cons h hp t
theorem wxn : WxE X W [] [] := .nil
theorem sfor {tg iter : Expr} {body : List Stmt} {it : Itx} {t : Tg} {m : Sm} {g : TG} (c : Dx Z N sc k X W) (hi : PI X tg iter (rdI X.gb W ent it)) (hg : PG X tg g) (ht : TgR X.gb g t) (hb : PSs X body (rdS X.gb W ent m))
    (hs : ∀ x, foldedSetIterable iter X.env x = pure x := by intro _; rfl) : PS X (.For tg iter body [] pos) (rdS X.gb W ent (sFor it t m)) := semS_for c.po c.calm hi hg ht hb hs
theorem swhile {cd : Expr} {body : List Stmt} {t : Tx} {m : Sm} (n : Nat) (c : Dx Z N sc k X W) (hc : PT X cd (rdT X.gb W ent t)) (hb : PSs X body (rdS X.gb W ent m)) : PS X (.While cd body [] pos) (rdS X.gb W ent (whileL t m n)) := semS_while n c.po hc hb
theorem pgs_c {x : Str} {es : List Expr} {i : Nat} {is : List Nat} (c : Bx Z N sc fs k X W) (h : tOk N sc fs i x = true) (t : PGs X es (gNames is)) (hp : plainA (.Name x p) = true := by rfl) : PGs X (.Name x p :: es) (gNames (i :: is)) := pgs_cons (gn c i h) t
end
end TM
namespace TM
open PySem PySem.Spec L2
open PyProof.Rows hiding St
abbrev ar0 : List Src := []
abbrev ar1 : List Src := [.pos 0]
abbrev ar2 : List Src := [.pos 0, .pos 1]
abbrev ar3 : List Src := [.pos 0, .pos 1, .pos 2]
abbrev ar4 : List Src := [.pos 0, .pos 1, .pos 2, .pos 3]
abbrev ar5 : List Src := [.pos 0, .pos 1, .pos 2, .pos 3, .pos 4]
theorem ox {X : Cx} {W : WX} {ent : Ent} {x : Expr} {m : Ex} (h : PE X x (rdE X.gb W ent m)) : OpE X W ent x (.ex m) := h
/-- a local's object is handed on -/
def wMove (i : Nat) : Wx := fun e S => match e[i]? with
  | some (some (.val d)) => .ok (.val d) e S
  | some (some s) => .ok s (e.set i none) S
  | _ => .stuck
theorem xmove {X : Cx} {W : WX} {ent : Ent} {Z : En} {N : List Str} {sc : Scope} {fs : Str → Bool} {k : Nat} {pos : Pos} (c : Bx Z N sc fs k X W) (i : Nat) {y : Str} (h : vOk N sc i y = true) : PE X (.Name y pos) (rdW X.gb W ent (wMove i)) :=
  (rv c i h).weak fun σ H Q ⟨e, S, F, rho, hR, hp⟩ => by
    unfold wMove at hp
    split at hp
    · rename_i d hd
      obtain ⟨v, h1, h2⟩ := hR.val i d hd
      exact ⟨v, h1, hp v H F rho hR (Sub.refl _) (Pre.refl _) h2⟩
    · rename_i s hn hs
      have hv : s.isVal = false := by
        cases s with
        | val d => exact (hn d rfl).elim
        | own _ => rfl
        | ownd _ => rfl
        | ownt _ => rfl
      obtain ⟨a, h1, h2, h3, h4, h5⟩ := hR.own i s hs hv
      refine ⟨.ref a, h1, hp _ H F rho (hR.drop i) (Sub.refl _) (Pre.refl _) (.of_own hv ⟨a, rfl, h2, h3, h4, h5, fun j t hj ht z => ?_⟩)⟩
      rcases get_set hj with ⟨_, q⟩ | ⟨hne, q⟩
      · cases q
      · exact hne (hR.sep i j s t a hs hv q ht h1 z)
    · exact hp.elim
theorem mgN {X : Cx} {W : WX} {Z : En} {N : List Str} {sc : Scope} {fs : Str → Bool} {k : Nat} {y : Str} (c : Bx Z N sc fs k X W) (h : Z.mg y = none) : X.mg y = none := by rw [c.hm]; exact h
end TM
namespace TM
open PySem PySem.Spec L2
open PyProof.Rows hiding St

/-! rows for the reckoning of meanings -/
theorem bind_ok {α β : Type} (a : α) (e : Env) (S : Sto) (f : α → Env → Sto → Out β) : (Out.ok a e S).bind f = f a e S := rfl
theorem bind_exc {α β : Type} (a : D) (e : Env) (S : Sto) (f : α → Env → Sto → Out β) : (Out.exc a e S).bind f = .exc a e S := rfl
theorem bind_stuck {α β : Type} (f : α → Env → Sto → Out β) : (Out.stuck : Out α).bind f = .stuck := rfl
theorem fMod_i (i j : Int) (h : j ≠ 0) : fMod [.int i, .int j] = some (.int (i.fmod j)) := if_pos h
theorem fFdiv_i (i j : Int) (h0 : 0 < j) (h1 : j < 1073741824) : fFdiv [.int i, .int j] = some (.int (i.fdiv j)) := if_pos ⟨by omega, by omega⟩
theorem fMul_i (i j : Int) (h0 : smI i = true ∨ smI j = true) : fMul [.int i, .int j] = some (.int (i * j)) := if_pos h0
theorem fMul_i2 (i j : Int) (h0 : 0 ≤ j) (h1 : j < 1152921504606846976) : fMul [.int i, .int j] = some (.int (i * j)) := if_pos (.inr (smI_iff ⟨by omega, h1⟩))
theorem fMul_i1 (i j : Int) (h0 : 0 ≤ i) (h1 : i < 1152921504606846976) : fMul [.int i, .int j] = some (.int (i * j)) := if_pos (.inl (smI_iff ⟨by omega, h1⟩))
theorem fm0 (a b : Int) (h : 0 < b) : 0 ≤ a.fmod b := Int.fmod_nonneg_of_pos _ h
theorem fm1 (a b N : Int) (h : 0 < b) (h2 : b ≤ N) : a.fmod b < N := Int.lt_of_lt_of_le (Int.fmod_lt_of_pos _ h) h2
theorem fd0 (a b : Int) (h : 0 < b) (h2 : 0 ≤ a) : 0 ≤ a.fdiv b := Int.fdiv_nonneg h2 (Int.le_of_lt h)
theorem fAdd_i (i j : Int) : fAdd [.int i, .int j] = some (.int (i + j)) := rfl
theorem fSub_i (i j : Int) : fSub [.int i, .int j] = some (.int (i - j)) := rfl
theorem fPow_i (i j : Int) (h : 0 ≤ j ∧ j ≤ 1000000 ∧ i.natAbs < 2 ^ 64) : fPow [.int i, .int j] = some (.int (i ^ j.toNat)) := if_pos h
theorem fAdd_l (a b : List D) (h : a.length + b.length ≤ 16777216) : fAdd [.lst a, .lst b] = some (.lst (a ++ b)) := if_pos (by rw [sizeLine_eq]; exact h)
theorem fAdd_t (a b : List D) (h : a.length + b.length ≤ 16777216) : fAdd [.tup a, .tup b] = some (.tup (a ++ b)) := if_pos (by rw [sizeLine_eq]; exact h)
theorem fAdd_s (a b : Str) (h : a.length + b.length ≤ 16777216) : fAdd [.str a, .str b] = some (.str (a ++ b)) := if_pos (by rw [sizeLine_eq]; exact h)
theorem fLt_i (i j : Int) : fLt [.int i, .int j] = some (.bl (decide (i < j))) := rfl
theorem fLe_i (i j : Int) : fLe [.int i, .int j] = some (.bl (decide (i ≤ j))) := rfl
theorem fGt_i (i j : Int) : fGt [.int i, .int j] = some (.bl (decide (j < i))) := rfl
theorem fGe_i (i j : Int) : fGe [.int i, .int j] = some (.bl (decide (j ≤ i))) := rfl
theorem fLen_l (ds : List D) : fLen [.lst ds] = some (.int ds.length) := rfl
theorem fLen_t (ds : List D) : fLen [.tup ds] = some (.int ds.length) := rfl
theorem fLen_s (x : Str) (h : x.length ≤ 16777216) : fLen [.str x] = some (.int x.length) := if_pos (by rw [sizeLine_eq]; exact h)
theorem atI_n {α : Type} (xs : List α) (i : Nat) : atI xs (i : Int) = xs[i]? := by
  cases h : xs[i]? with
  | some x => exact atI_nat h
  | none =>
    have := List.getElem?_eq_none_iff.mp h
    have e : ixN xs.length (i : Int) = none := by
      unfold ixN
      split
      · split
        · omega
        · rfl
      · split
        · omega
        · rfl
    unfold atI
    rw [e]
    rfl
theorem fIx_l (ds : List D) (i : Nat) : fIx [.lst ds, .int (i : Int)] = ds[i]? := atI_n ds i
theorem fIx_t (ds : List D) (i : Nat) : fIx [.tup ds, .int (i : Int)] = ds[i]? := atI_n ds i
end TM
namespace TM
open PySem PySem.Spec L2
open PyProof.Rows hiding St

/-! ### draws, as every law has them -/
def m__law_begin : Sm := sSeq (sRet (wDisp ["cells", "at", "left", "used"] [bPrim fAdd [.sl 0, .ex (eFrz (wLst [bC (.int 0)]))], bC (.int 0), bC (.int 0), bC (.int 0)])) (sOk .next)
def F__law_begin : Fsem := fsem 1 m__law_begin
abbrev I__law_begin : FnI := ⟨["script"], F__law_begin, [], [(1, [], ar1)]⟩
def m__law_mixed : Sm := sSeq (sSet 2 (wVal (bPrim fMod [.ex (bPrim fAdd [.ex (bPrim fAdd [.ex (bPrim fAdd [.ex (bPrim fMod [.sl 0, .ex (bC (.int 1000000007))]), .ex (bPrim fMul [.ex (bPrim fMul [.ex (bC (.int 7919)), .sl 1]), .sl 1])]), .ex (bPrim fMul [.ex (bC (.int 31)), .sl 1])]), .ex (bC (.int 7))]), .ex (bC (.int 2147483647))]))) (sSeq (sSet 2 (wVal (bPrim fMod [.ex (bPrim fMul [.ex (bPrim fMod [.ex (bPrim fMul [.sl 2, .sl 2]), .ex (bC (.int 2147483647))]), .sl 2]), .ex (bC (.int 2147483629))]))) (sSeq (sRet (wVal (bPrim fFdiv [.ex (bPrim fMod [.ex (bPrim fMul [.sl 2, .ex (bPrim fAdd [.ex (bC (.int 69621)), .ex (bPrim fMul [.ex (bC (.int 2)), .ex (bPrim fMod [.sl 1, .ex (bC (.int 1000))])])])]), .ex (bC (.int 2147483647))]), .ex (bC (.int 7))]))) (sOk .next)))
def F__law_mixed : Fsem := fsem 3 m__law_mixed
abbrev I__law_mixed : FnI := ⟨["cell", "k"], F__law_mixed, [], [(2, [], ar2)]⟩
def m__law_next : Sm := sSeq (sIf (tBool (bPrim fGt [.ex (bGet (bVar 0) (bC (.str "left"))), .ex (bC (.int 0))])) (sSeq (sSet 4 (wVal (bPrim fMod [.ex (bGet (bVar 0) (bC (.str "left"))), .sl 1]))) (sSeq (sPutD (bVar 0) (bC (.str "left")) (bPrim fFdiv [.ex (bGet (bVar 0) (bC (.str "left"))), .sl 1])) (sSeq (sRet (wMove 4)) (sOk .next)))) (sOk .next)) (sSeq (sSet 2 (wVal (bGet (bVar 0) (bC (.str "cells"))))) (sSeq (sSet 3 (wVal (bPrim fIx [.sl 2, .ex (bPrim fMod [.ex (bGet (bVar 0) (bC (.str "at"))), .ex (bPrim fLen [.sl 2])])]))) (sSeq (sPutD (bVar 0) (bC (.str "at")) (bPrim fAdd [.ex (bGet (bVar 0) (bC (.str "at"))), .ex (bC (.int 1))])) (sSeq (sIf (tAndB (tBool (bPrim fGe [.sl 3, .ex (bPrim fPow [.ex (bC (.int 10)), .ex (bC (.int 18))])])) (tBool (bPrim fLe [.ex (bGet (bVar 0) (bC (.str "at"))), .ex (bPrim fLen [.sl 2])]))) (sSeq (sPutD (bVar 0) (bC (.str "left")) (bPrim fFdiv [.sl 3, .sl 1])) (sSeq (sRet (wVal (bPrim fMod [.sl 3, .sl 1]))) (sOk .next))) (sOk .next)) (sSeq (sPutD (bVar 0) (bC (.str "used")) (bPrim fAdd [.ex (bGet (bVar 0) (bC (.str "used"))), .ex (bC (.int 1))])) (sSeq (sRet (wVal (bPrim fMod [.ex (eFrz (wCall F__law_mixed [] ar2 [eFrz (wCall F__law_mixed [] ar2 [bVar 3, bGet (bVar 0) (bC (.str "at"))] []), bGet (bVar 0) (bC (.str "used"))] [])), .sl 1]))) (sOk .next)))))))
def F__law_next : Fsem := fsem 5 m__law_next
abbrev I__law_next : FnI := ⟨["draw", "many"], F__law_next, [], [(2, [], ar2)]⟩
def drKv (cells : List Int) (a l u : Int) : List (Key × D) := [(.inr "cells", .lst (cells.map .int)), (.inr "at", .int a), (.inr "left", .int l), (.inr "used", .int u)]
structure Dr (t : Nat) (S : Sto) : Prop where
  ex : ∃ (cells : List Int) (a l u : Int) (r : Sto), S = .dict (drKv cells a l u) :: r ∧ cells ≠ [] ∧ cells.length ≤ 64 ∧ 0 ≤ a ∧ a ≤ t ∧ 0 ≤ l ∧ 0 ≤ u ∧ u ≤ t
theorem get_cells (cells : List Int) (a l u : Int) (r : Sto) : dGetS (.dict (drKv cells a l u) :: r) (.ref 0) (.str "cells") = some (.lst (cells.map .int)) := rfl
theorem get_at (cells : List Int) (a l u : Int) (r : Sto) : dGetS (.dict (drKv cells a l u) :: r) (.ref 0) (.str "at") = some (.int a) := rfl
theorem get_left (cells : List Int) (a l u : Int) (r : Sto) : dGetS (.dict (drKv cells a l u) :: r) (.ref 0) (.str "left") = some (.int l) := rfl
theorem get_used (cells : List Int) (a l u : Int) (r : Sto) : dGetS (.dict (drKv cells a l u) :: r) (.ref 0) (.str "used") = some (.int u) := rfl
theorem put_at (cells : List Int) (a l u x : Int) (r : Sto) : dPutS (.dict (drKv cells a l u) :: r) (.ref 0) (.str "at") (.int x) = some (.dict (drKv cells x l u) :: r) := rfl
theorem put_left (cells : List Int) (a l u x : Int) (r : Sto) : dPutS (.dict (drKv cells a l u) :: r) (.ref 0) (.str "left") (.int x) = some (.dict (drKv cells a x u) :: r) := rfl
theorem put_used (cells : List Int) (a l u x : Int) (r : Sto) : dPutS (.dict (drKv cells a l u) :: r) (.ref 0) (.str "used") (.int x) = some (.dict (drKv cells a l x) :: r) := rfl
theorem begin_ok (ns : List Int) (h : ns.length ≤ 63) : F__law_begin [.lst (ns.map .int)] [] = .ok (.val (.ref 0)) [] [.dict (drKv (ns ++ [0]) 0 0 0)] := by
  have e : fAdd [.lst (ns.map .int), .lst [.int 0]] = some (.lst ((ns ++ [0]).map .int)) := by
    rw [fAdd_l _ _ (by simp; omega)]
    simp
  simp only [F__law_begin, m__law_begin, bind_ok, bind_exc, bind_stuck, sizeLine_eq, fMod_i, fFdiv_i, fMul_i, fMul_i1, fMul_i2, fm0, fm1, fAdd_i, fSub_i, fPow_i, fAdd_l, fAdd_t, fAdd_s, fLt_i, fLe_i, fGt_i, fGe_i, evO, resW, evR, bPrim, bC, bVar, tTru, tBool, tNotB, tAndB, tOrB, bAnd, bOr, bNot, bIf, wIf, evX, bTup, wLst, wPrim, wVal, eFrz, wCall, sOk, sRet, sSet, sIf, sSeq, sDrop, sPar, evW, setAll, Tg.asg, Tg.asgs, mMut, sPutL, bGet, sPutD, wDisp, ePub, bIxL, sPutS, mChk, mInt, D.isStr, D.isInt, D.tru, fLen_l, fLen_t, List.length_map, iVal, itemsD, iRange, plainS, wipeE, backE, wComp, wCompB, List.all_cons, List.all_nil, Slot.isVal, Bool.and_true, Bool.true_and, Bool.and_self, fsem, env0, fill, wMove, Slot.frz, List.getElem?_cons_zero, List.getElem?_cons_succ, List.set_cons_zero, List.set_cons_succ, List.map_cons, List.map_nil, List.cons_append, List.nil_append, List.reduceReplicate, Option.getD_some, List.length_cons, List.length_nil, List.getD_cons_zero, List.getD_cons_succ, Nat.reduceAdd, Nat.reduceSub, Option.map_some, if_true, if_false, ite_true, ite_false, Bool.false_eq_true, reduceIte, Nat.reduceLeDiff, Nat.reduceEqDiff, Int.reduceEq, Int.reduceNe, Int.reduceLT, Int.reduceLE, Int.reduceNeg, Int.reducePow, ne_eq, not_false_eq_true, decide_true, decide_false, true_and, and_true, true_or, or_true, and_self, Bool.not_true, Bool.not_false, reduceCtorEq, e]
  rfl
theorem mixed_ok (cell k : Int) (S : Sto) (hk : 0 ≤ k) (hk2 : k < 1152921504606846976) : ∃ r : Int, 0 ≤ r ∧ F__law_mixed [.int cell, .int k] S = .ok (.val (.int r)) [] S := by
  simp only [F__law_mixed, m__law_mixed, bind_ok, bind_exc, bind_stuck, sizeLine_eq, fMod_i, fFdiv_i, fMul_i, fMul_i1, fMul_i2, fm0, fm1, fAdd_i, fSub_i, fPow_i, fAdd_l, fAdd_t, fAdd_s, fLt_i, fLe_i, fGt_i, fGe_i, evO, resW, evR, bPrim, bC, bVar, tTru, tBool, tNotB, tAndB, tOrB, bAnd, bOr, bNot, bIf, wIf, evX, bTup, wLst, wPrim, wVal, eFrz, wCall, sOk, sRet, sSet, sIf, sSeq, sDrop, sPar, evW, setAll, Tg.asg, Tg.asgs, mMut, sPutL, bGet, sPutD, wDisp, ePub, bIxL, sPutS, mChk, mInt, D.isStr, D.isInt, D.tru, fLen_l, fLen_t, List.length_map, iVal, itemsD, iRange, plainS, wipeE, backE, wComp, wCompB, List.all_cons, List.all_nil, Slot.isVal, Bool.and_true, Bool.true_and, Bool.and_self, fsem, env0, fill, wMove, Slot.frz, List.getElem?_cons_zero, List.getElem?_cons_succ, List.set_cons_zero, List.set_cons_succ, List.map_cons, List.map_nil, List.cons_append, List.nil_append, List.reduceReplicate, Option.getD_some, List.length_cons, List.length_nil, List.getD_cons_zero, List.getD_cons_succ, Nat.reduceAdd, Nat.reduceSub, Option.map_some, if_true, if_false, ite_true, ite_false, Bool.false_eq_true, reduceIte, Nat.reduceLeDiff, Nat.reduceEqDiff, Int.reduceEq, Int.reduceNe, Int.reduceLT, Int.reduceLE, Int.reduceNeg, Int.reducePow, ne_eq, not_false_eq_true, decide_true, decide_false, true_and, and_true, true_or, or_true, and_self, Bool.not_true, Bool.not_false, reduceCtorEq, hk, hk2]
  exact ⟨_, fd0 _ _ (by decide) (fm0 _ _ (by decide)), rfl⟩
theorem at_fmod {α : Type} {xs : List α} {a : Int} (h : xs ≠ []) : ∃ (i : Nat) (x : α), a.fmod (xs.length : Int) = (i : Nat) ∧ xs[i]? = some x := by
  have hp : 0 < (xs.length : Int) := by
    cases xs with
    | nil => exact absurd rfl h
    | cons => simp
  have h0 := fm0 a _ hp
  have h1 := fm1 a _ _ hp (Int.le_refl _)
  have h2 : (a.fmod (xs.length : Int)).toNat < xs.length := by omega
  exact ⟨(a.fmod (xs.length : Int)).toNat, xs[(a.fmod (xs.length : Int)).toNat], by omega, by simp [h2]⟩
theorem pow18 : fPow [.int 10, .int 18] = some (.int 1000000000000000000) := by
  rw [fPow_i _ _ (by decide)]
  rfl
/-- the next number -/
theorem next_ok {t : Nat} {S : Sto} {many : Int} (h : Dr t S) (ht : t < 1000000000) (h1 : 1 ≤ many) (h2 : many ≤ 1000000000) : ∃ (r : Int) (S' : Sto), 0 ≤ r ∧ r < many ∧ Dr (t + 1) S' ∧ F__law_next [.ref 0, .int many] S = .ok (.val (.int r)) [] S' := by
  obtain ⟨cells, a, l, u, rest, rfl, hc, hz, ha, hat, hl, hu, hut⟩ := h.ex
  have hm : many ≠ 0 := by omega
  have hm0 : 0 < many := by omega
  have hm1 : many < 1073741824 := by omega
  have hlen : (cells.length : Int) ≠ 0 := by
    cases cells with
    | nil => exact absurd rfl hc
    | cons => simp; omega
  obtain ⟨i, x, hi, hx⟩ := at_fmod (a := a) hc
  have hx2 : (cells.map D.int)[i]? = some (.int x) := by rw [List.getElem?_map, hx]; rfl
  by_cases q : 0 < l
  · simp only [F__law_next, m__law_next, bind_ok, bind_exc, bind_stuck, sizeLine_eq, fMod_i, fFdiv_i, fMul_i, fMul_i1, fMul_i2, fm0, fm1, fAdd_i, fSub_i, fPow_i, fAdd_l, fAdd_t, fAdd_s, fLt_i, fLe_i, fGt_i, fGe_i, evO, resW, evR, bPrim, bC, bVar, tTru, tBool, tNotB, tAndB, tOrB, bAnd, bOr, bNot, bIf, wIf, evX, bTup, wLst, wPrim, wVal, eFrz, wCall, sOk, sRet, sSet, sIf, sSeq, sDrop, sPar, evW, setAll, Tg.asg, Tg.asgs, mMut, sPutL, bGet, sPutD, wDisp, ePub, bIxL, sPutS, mChk, mInt, D.isStr, D.isInt, D.tru, fLen_l, fLen_t, List.length_map, iVal, itemsD, iRange, plainS, wipeE, backE, wComp, wCompB, List.all_cons, List.all_nil, Slot.isVal, Bool.and_true, Bool.true_and, Bool.and_self, fsem, env0, fill, wMove, Slot.frz, List.getElem?_cons_zero, List.getElem?_cons_succ, List.set_cons_zero, List.set_cons_succ, List.map_cons, List.map_nil, List.cons_append, List.nil_append, List.reduceReplicate, Option.getD_some, List.length_cons, List.length_nil, List.getD_cons_zero, List.getD_cons_succ, Nat.reduceAdd, Nat.reduceSub, Option.map_some, if_true, if_false, ite_true, ite_false, Bool.false_eq_true, reduceIte, Nat.reduceLeDiff, Nat.reduceEqDiff, Int.reduceEq, Int.reduceNe, Int.reduceLT, Int.reduceLE, Int.reduceNeg, Int.reducePow, ne_eq, not_false_eq_true, decide_true, decide_false, true_and, and_true, true_or, or_true, and_self, Bool.not_true, Bool.not_false, reduceCtorEq, get_left, put_left, q, hm, hm0, hm1]
    exact ⟨_, _, fm0 _ _ hm0, fm1 _ _ _ hm0 (Int.le_refl _), ⟨cells, a, _, u, rest, rfl, hc, hz, ha, by omega, fd0 _ _ hm0 (by omega), hu, by omega⟩, rfl⟩
  · have hmix := mixed_ok x (a + 1) (.dict (drKv cells (a + 1) l (u + 1)) :: rest) (by omega) (by omega)
    obtain ⟨y, hy, ey⟩ := hmix
    obtain ⟨z, hz2, ez⟩ := mixed_ok y (u + 1) (.dict (drKv cells (a + 1) l (u + 1)) :: rest) (by omega) (by omega)
    have fin : Dr (t + 1) (.dict (drKv cells (a + 1) l (u + 1)) :: rest) := ⟨cells, a + 1, l, u + 1, rest, rfl, hc, hz, by omega, by omega, hl, by omega, by omega⟩
    by_cases p : 1000000000000000000 ≤ x
    · by_cases p2 : a + 1 ≤ (cells.length : Int)
      · simp only [F__law_next, m__law_next, bind_ok, bind_exc, bind_stuck, sizeLine_eq, fMod_i, fFdiv_i, fMul_i, fMul_i1, fMul_i2, fm0, fm1, fAdd_i, fSub_i, fPow_i, fAdd_l, fAdd_t, fAdd_s, fLt_i, fLe_i, fGt_i, fGe_i, evO, resW, evR, bPrim, bC, bVar, tTru, tBool, tNotB, tAndB, tOrB, bAnd, bOr, bNot, bIf, wIf, evX, bTup, wLst, wPrim, wVal, eFrz, wCall, sOk, sRet, sSet, sIf, sSeq, sDrop, sPar, evW, setAll, Tg.asg, Tg.asgs, mMut, sPutL, bGet, sPutD, wDisp, ePub, bIxL, sPutS, mChk, mInt, D.isStr, D.isInt, D.tru, fLen_l, fLen_t, List.length_map, iVal, itemsD, iRange, plainS, wipeE, backE, wComp, wCompB, List.all_cons, List.all_nil, Slot.isVal, Bool.and_true, Bool.true_and, Bool.and_self, fsem, env0, fill, wMove, Slot.frz, List.getElem?_cons_zero, List.getElem?_cons_succ, List.set_cons_zero, List.set_cons_succ, List.map_cons, List.map_nil, List.cons_append, List.nil_append, List.reduceReplicate, Option.getD_some, List.length_cons, List.length_nil, List.getD_cons_zero, List.getD_cons_succ, Nat.reduceAdd, Nat.reduceSub, Option.map_some, if_true, if_false, ite_true, ite_false, Bool.false_eq_true, reduceIte, Nat.reduceLeDiff, Nat.reduceEqDiff, Int.reduceEq, Int.reduceNe, Int.reduceLT, Int.reduceLE, Int.reduceNeg, Int.reducePow, ne_eq, not_false_eq_true, decide_true, decide_false, true_and, and_true, true_or, or_true, and_self, Bool.not_true, Bool.not_false, reduceCtorEq, get_left, put_left, get_cells, get_at, put_at, get_used, put_used, q, hm, hm0, hm1, fLen_l, List.length_map, hlen, hi, fIx_l, hx2, pow18, p, p2]
        exact ⟨_, _, fm0 _ _ hm0, fm1 _ _ _ hm0 (Int.le_refl _), ⟨cells, a + 1, _, u, rest, rfl, hc, hz, by omega, by omega, fd0 _ _ hm0 (by omega), hu, by omega⟩, rfl⟩
      · simp only [F__law_next, m__law_next, bind_ok, bind_exc, bind_stuck, sizeLine_eq, fMod_i, fFdiv_i, fMul_i, fMul_i1, fMul_i2, fm0, fm1, fAdd_i, fSub_i, fPow_i, fAdd_l, fAdd_t, fAdd_s, fLt_i, fLe_i, fGt_i, fGe_i, evO, resW, evR, bPrim, bC, bVar, tTru, tBool, tNotB, tAndB, tOrB, bAnd, bOr, bNot, bIf, wIf, evX, bTup, wLst, wPrim, wVal, eFrz, wCall, sOk, sRet, sSet, sIf, sSeq, sDrop, sPar, evW, setAll, Tg.asg, Tg.asgs, mMut, sPutL, bGet, sPutD, wDisp, ePub, bIxL, sPutS, mChk, mInt, D.isStr, D.isInt, D.tru, fLen_l, fLen_t, List.length_map, iVal, itemsD, iRange, plainS, wipeE, backE, wComp, wCompB, List.all_cons, List.all_nil, Slot.isVal, Bool.and_true, Bool.true_and, Bool.and_self, fsem, env0, fill, wMove, Slot.frz, List.getElem?_cons_zero, List.getElem?_cons_succ, List.set_cons_zero, List.set_cons_succ, List.map_cons, List.map_nil, List.cons_append, List.nil_append, List.reduceReplicate, Option.getD_some, List.length_cons, List.length_nil, List.getD_cons_zero, List.getD_cons_succ, Nat.reduceAdd, Nat.reduceSub, Option.map_some, if_true, if_false, ite_true, ite_false, Bool.false_eq_true, reduceIte, Nat.reduceLeDiff, Nat.reduceEqDiff, Int.reduceEq, Int.reduceNe, Int.reduceLT, Int.reduceLE, Int.reduceNeg, Int.reducePow, ne_eq, not_false_eq_true, decide_true, decide_false, true_and, and_true, true_or, or_true, and_self, Bool.not_true, Bool.not_false, reduceCtorEq, get_left, put_left, get_cells, get_at, put_at, get_used, put_used, q, hm, hm0, hm1, fLen_l, List.length_map, hlen, hi, fIx_l, hx2, pow18, p, p2, ey, ez]
        exact ⟨_, _, fm0 _ _ hm0, fm1 _ _ _ hm0 (Int.le_refl _), fin, rfl⟩
    · simp only [F__law_next, m__law_next, bind_ok, bind_exc, bind_stuck, sizeLine_eq, fMod_i, fFdiv_i, fMul_i, fMul_i1, fMul_i2, fm0, fm1, fAdd_i, fSub_i, fPow_i, fAdd_l, fAdd_t, fAdd_s, fLt_i, fLe_i, fGt_i, fGe_i, evO, resW, evR, bPrim, bC, bVar, tTru, tBool, tNotB, tAndB, tOrB, bAnd, bOr, bNot, bIf, wIf, evX, bTup, wLst, wPrim, wVal, eFrz, wCall, sOk, sRet, sSet, sIf, sSeq, sDrop, sPar, evW, setAll, Tg.asg, Tg.asgs, mMut, sPutL, bGet, sPutD, wDisp, ePub, bIxL, sPutS, mChk, mInt, D.isStr, D.isInt, D.tru, fLen_l, fLen_t, List.length_map, iVal, itemsD, iRange, plainS, wipeE, backE, wComp, wCompB, List.all_cons, List.all_nil, Slot.isVal, Bool.and_true, Bool.true_and, Bool.and_self, fsem, env0, fill, wMove, Slot.frz, List.getElem?_cons_zero, List.getElem?_cons_succ, List.set_cons_zero, List.set_cons_succ, List.map_cons, List.map_nil, List.cons_append, List.nil_append, List.reduceReplicate, Option.getD_some, List.length_cons, List.length_nil, List.getD_cons_zero, List.getD_cons_succ, Nat.reduceAdd, Nat.reduceSub, Option.map_some, if_true, if_false, ite_true, ite_false, Bool.false_eq_true, reduceIte, Nat.reduceLeDiff, Nat.reduceEqDiff, Int.reduceEq, Int.reduceNe, Int.reduceLT, Int.reduceLE, Int.reduceNeg, Int.reducePow, ne_eq, not_false_eq_true, decide_true, decide_false, true_and, and_true, true_or, or_true, and_self, Bool.not_true, Bool.not_false, reduceCtorEq, get_left, put_left, get_cells, get_at, put_at, get_used, put_used, q, hm, hm0, hm1, fLen_l, List.length_map, hlen, hi, fIx_l, hx2, pow18, p, ey, ez]
      exact ⟨_, _, fm0 _ _ hm0, fm1 _ _ _ hm0 (Int.le_refl _), fin, rfl⟩
end TM
namespace TM
open PySem PySem.Spec L2
open PyProof.Rows hiding St

/-! loops, reckoned -/
theorem forL_run {t : Tg} {m : Sm} (I : Nat → Env → Sto → Prop) : ∀ (ds : List D) (i : Nat) (e : Env) (S : Sto), I i e S →
    (∀ (j : Nat) (d : D) (e : Env) (S : Sto), ds[j]? = some d → I (i + j) e S → ∃ e1 e2 S2, t.asg d e = some e1 ∧ m e1 S = .ok .next e2 S2 ∧ I (i + j + 1) e2 S2) → ∃ e' S', forL t m ds e S = .ok .next e' S' ∧ I (i + ds.length) e' S'
  | [], i, e, S, h, _ => ⟨e, S, rfl, h⟩
  | d :: ds, i, e, S, h, hs => by
    obtain ⟨e1, e2, S2, h1, h2, h3⟩ := hs 0 d e S rfl h
    obtain ⟨e', S', k1, k2⟩ := forL_run I ds (i + 1) e2 S2 h3 fun j d e S hd hI => by
      have := hs (j + 1) d e S (by simpa using hd) (by rw [show i + (j + 1) = i + 1 + j by omega]; exact hI)
      rw [show i + (j + 1) + 1 = i + 1 + j + 1 by omega] at this
      exact this
    refine ⟨e', S', ?_, by rw [List.length_cons, show i + (ds.length + 1) = i + 1 + ds.length by omega]; exact k2⟩
    rw [forL, h1]
    simp only [h2, bind_ok]
    exact k1
theorem whileL_run {t : Tx} {m : Sm} (I : Nat → Env → Sto → Prop) (Fin : Env → Sto → Prop) (h0 : ∀ k e S, I k e S → (∃ e1 S1, t e S = .ok false e1 S1 ∧ Fin e1 S1) ∨ (∃ e1 S1 e2 S2 k', t e S = .ok true e1 S1 ∧ m e1 S1 = .ok .next e2 S2 ∧ k' < k ∧ I k' e2 S2)) :
    ∀ (n k : Nat) (e : Env) (S : Sto), I k e S → k < n → ∃ e' S', whileL t m n e S = .ok .next e' S' ∧ Fin e' S'
  | 0, k, e, S, _, h => by omega
  | n + 1, k, e, S, hI, hk => by
    rcases h0 k e S hI with ⟨e1, S1, h1, h2⟩ | ⟨e1, S1, e2, S2, k', h1, h2, h3, h4⟩
    · refine ⟨e1, S1, ?_, h2⟩
      rw [whileL, h1]
      rfl
    · obtain ⟨e', S', q1, q2⟩ := whileL_run I Fin h0 n k' e2 S2 h4 (by omega)
      refine ⟨e', S', ?_, q2⟩
      rw [whileL, h1]
      simp only [bind_ok, if_true, h2]
      exact q1
theorem compL_run {vs : List Nat} {t : Tg} {m : Ex} (I : Nat → Env → Sto → Prop) (P : Nat → D → Prop) : ∀ (ds : List D) (i : Nat) (acc : List D) (e : Env) (S : Sto), acc.length + ds.length ≤ 16777216 → I i e S →
    (∀ (j : Nat) (d : D) (e : Env) (S : Sto), ds[j]? = some d → I (i + j) e S → ∃ e1 y e2 S2, t.asg d e = some e1 ∧ m e1 S = .ok y e2 S2 ∧ I (i + j + 1) (wipeE e2 vs) S2 ∧ P (i + j) y) →
    ∃ ys e' S', compL vs t bTT (turn1 m) ds acc e S = .ok (acc ++ ys) e' S' ∧ I (i + ds.length) e' S' ∧ ys.length = ds.length ∧ ∀ j y, ys[j]? = some y → P (i + j) y
  | [], i, acc, e, S, _, h, _ => ⟨[], e, S, by rw [List.append_nil]; rfl, h, rfl, fun j y q => by simp at q⟩
  | d :: ds, i, acc, e, S, hz, h, hs => by
    obtain ⟨e1, y, e2, S2, h1, h2, h3, h4⟩ := hs 0 d e S rfl h
    rw [List.length_cons] at hz
    obtain ⟨ys, e', S', k1, k2, k3, k4⟩ := compL_run I P ds (i + 1) (acc ++ [y]) (wipeE e2 vs) S2 (by rw [List.length_append, List.length_singleton]; omega) h3 fun j d e S hd hI => by
      have := hs (j + 1) d e S (by simpa using hd) (by rw [show i + (j + 1) = i + 1 + j by omega]; exact hI)
      rw [show i + (j + 1) + 1 = i + 1 + j + 1 by omega, show i + (j + 1) = i + 1 + j by omega] at this
      exact this
    refine ⟨y :: ys, e', S', ?_, by rw [List.length_cons, show i + (ds.length + 1) = i + 1 + ds.length by omega]; exact k2, by rw [List.length_cons, List.length_cons, k3], fun j z q => ?_⟩
    · rw [compL, h1]
      have ha : acc.length < sizeLine := by rw [sizeLine_eq]; omega
      simp only [bTT, turn1, h2, if_pos ha]
      rw [show acc ++ y :: ys = acc ++ [y] ++ ys by simp]
      exact k1
    · cases j with
      | zero => simp at q; subst q; exact h4
      | succ j =>
        have := k4 j z (by simpa using q)
        rw [show i + (j + 1) = i + 1 + j by omega]
        exact this
/-- with a test -/
theorem compF_run {vs : List Nat} {t : Tg} {tt : Tx} {m : Ex} {e0 : Env} {S0 : Sto} (f : D → Option D) : ∀ (ds : List D) (acc : List D), acc.length + ds.length ≤ 16777216 →
    (∀ d ∈ ds, ∃ e1, t.asg d e0 = some e1 ∧ match f d with
      | some y => ∃ e2 e3, tt e1 S0 = .ok true e2 S0 ∧ m e2 S0 = .ok y e3 S0 ∧ wipeE e3 vs = e0
      | none => ∃ e2, tt e1 S0 = .ok false e2 S0 ∧ wipeE e2 vs = e0) → compL vs t tt (turn1 m) ds acc e0 S0 = .ok (acc ++ ds.filterMap f) e0 S0
  | [], acc, _, _ => by rw [List.filterMap_nil, List.append_nil]; rfl
  | d :: ds, acc, hz, h => by
    rw [List.length_cons] at hz
    obtain ⟨e1, h1, h2⟩ := h d List.mem_cons_self
    rw [compL, h1]
    cases q : f d with
    | none =>
      rw [q] at h2
      obtain ⟨e2, h3, h4⟩ := h2
      simp only [h3, h4]
      rw [List.filterMap_cons_none q]
      exact compF_run f ds acc (by omega) fun d hd => h d (List.mem_cons_of_mem _ hd)
    | some y =>
      rw [q] at h2
      obtain ⟨e2, e3, h3, h4, h5⟩ := h2
      have ha : acc.length < sizeLine := by rw [sizeLine_eq]; omega
      simp only [h3, turn1, h4, if_pos ha, h5]
      rw [List.filterMap_cons_some q, show acc ++ y :: ds.filterMap f = acc ++ [y] ++ ds.filterMap f by simp]
      exact compF_run f ds (acc ++ [y]) (by rw [List.length_append, List.length_singleton]; omega) fun d hd => h d (List.mem_cons_of_mem _ hd)
theorem range1_ok (n : Nat) (h : n ≤ 16777216) : range1 [.int (n : Int)] = some (rangeD 0 n 1) := by
  refine (if_pos ⟨smI_iff ⟨by omega, by omega⟩, by omega⟩).trans ?_
  rw [Int.toNat_natCast]
theorem range2_ok (a b : Nat) (h : b ≤ 16777216) (h2 : a ≤ 16777216) : range2 [.int (a : Int), .int (b : Int)] = some (rangeD a (b - a) 1) := by
  refine (if_pos ⟨smI_iff ⟨by omega, by omega⟩, smI_iff ⟨by omega, by omega⟩, by omega⟩).trans ?_
  rw [show ((b : Int) - a).toNat = b - a by omega]
theorem range3_ok (n : Nat) (h : n ≤ 16777216) : range3 [.int ((n : Int) - 1), .int (-1), .int (-1)] = some (rangeD ((n : Int) - 1) n (-1)) := by
  refine (if_pos ⟨rfl, smI_iff ⟨by omega, by omega⟩, smI_iff ⟨by omega, by omega⟩, by omega⟩).trans ?_
  rw [show ((n : Int) - 1 - -1).toNat = n by omega]
theorem rangeD_length (lo : Int) (n : Nat) (c : Int) : (rangeD lo n c).length = n := by simp [rangeD]
theorem rangeD_get {lo : Int} {n : Nat} {c : Int} {j : Nat} {d : D} (h : (rangeD lo n c)[j]? = some d) : j < n ∧ d = .int (lo + (j : Nat) * c) := by
  have hj : j < n := by rw [← rangeD_length lo n c]; exact (List.getElem?_eq_some_iff.mp h).1
  unfold rangeD at h
  rw [List.getElem?_map, List.getElem?_range hj] at h
  exact ⟨hj, by cases h; rfl⟩
theorem forL_rng {t : Tg} {m : Sm} (I : Nat → Env → Sto → Prop) {g : Nat → D} : ∀ (n i : Nat) (e : Env) (S : Sto), I i e S → (∀ j, i ≤ j → j < i + n → ∀ e S, I j e S → ∃ e2 S2, (∀ ds, forL t m (g j :: ds) e S = forL t m ds e2 S2) ∧ I (j + 1) e2 S2) →
    ∃ e' S', forL t m ((List.range' i n).map g) e S = .ok .next e' S' ∧ I (i + n) e' S'
  | 0, i, e, S, h, _ => ⟨e, S, rfl, h⟩
  | n + 1, i, e, S, h, hs => by
    obtain ⟨e2, S2, h1, h2⟩ := hs i (Nat.le_refl _) (by omega) e S h
    obtain ⟨e', S', k1, k2⟩ := forL_rng I n (i + 1) e2 S2 h2 fun j a b => hs j (by omega) (by omega)
    refine ⟨e', S', ?_, by rw [show i + (n + 1) = i + 1 + n by omega]; exact k2⟩
    rw [List.range'_succ, List.map_cons, h1]
    exact k1
theorem rangeD_down (n : Nat) : rangeD ((n : Int) - 1) n (-1) = (List.range' 0 n).map fun i => .int ((n - 1 - i : Nat) : Int) := by
  unfold rangeD
  rw [List.range_eq_range']
  apply List.map_congr_left
  intro i hi
  have : i < n := by
    have := List.mem_range'.mp hi
    omega
  congr 1
  omega
theorem rangeD_up (n : Nat) : rangeD 0 n 1 = (List.range' 0 n).map fun i => .int (i : Nat) := by
  unfold rangeD
  rw [List.range_eq_range']
  apply List.map_congr_left
  intro i hi
  congr 1
  omega
/-- turns of any kind that leave all as it stood -/
theorem compB_run {vs : List Nat} {t : Tg} {B : Turn} {e0 : Env} {S0 : Sto} (M : Nat) (f : D → List D) : ∀ (ds acc : List D), (acc ++ ds.flatMap f).length ≤ M →
    (∀ d ∈ ds, ∃ e1, t.asg d e0 = some e1 ∧ ∀ acc : List D, acc.length ≤ M → ∃ e3, B acc e1 S0 = .ok (acc ++ f d) e3 S0 ∧ wipeE e3 vs = e0) → compL vs t bTT B ds acc e0 S0 = .ok (acc ++ ds.flatMap f) e0 S0
  | [], acc, _, _ => by rw [List.flatMap_nil, List.append_nil]; rfl
  | d :: ds, acc, hz, h => by
    rw [List.flatMap_cons, ← List.append_assoc] at hz
    obtain ⟨e1, h1, h2⟩ := h d List.mem_cons_self
    obtain ⟨e3, h3, h4⟩ := h2 acc (by rw [List.length_append, List.length_append] at hz; omega)
    rw [compL, h1]
    simp only [bTT, h3, h4]
    rw [List.flatMap_cons, ← List.append_assoc]
    exact compB_run M f ds (acc ++ f d) hz fun d hd => h d (List.mem_cons_of_mem _ hd)
theorem eq_i (a b : Int) : fEq [.int a, .int b] = some (.bl (decide (a = b))) := by
  show some (D.bl (PyData.eqv (.int a) (.int b))) = _
  congr 2
theorem ne_i (a b : Int) : fNe [.int a, .int b] = some (.bl (!decide (a = b))) := by
  show some (D.bl (!PyData.eqv (.int a) (.int b))) = _
  congr 2
theorem eq_str (a b : Str) : fEq [.str a, .str b] = some (.bl (decide (a = b))) := rfl
theorem ne_str (a b : Str) : fNe [.str a, .str b] = some (.bl (!decide (a = b))) := rfl
end TM
namespace TM
open PySem PySem.Spec L2
open PyProof.Rows hiding St

/-! texts of data: how long at most -/
structure Shw (k B : Nat) (d : D) : Prop where
  dat : d.dat = true
  dep : d.dep ≤ k
  sho : d.py.showable = true
  len : d.py.shown.length ≤ B
theorem Shw.mono {k k' B B' : Nat} {d : D} (h : Shw k B d) (h1 : k ≤ k') (h2 : B ≤ B') : Shw k' B' d := ⟨h.dat, Nat.le_trans h.dep h1, h.sho, Nat.le_trans h.len h2⟩
theorem shw_all {k B : Nat} : ∀ {ds : List D}, (∀ d ∈ ds, Shw k B d) → D.dats ds = true ∧ D.deps ds ≤ k ∧ PyData.showableAll (D.pys ds) = true ∧ (PyData.shownAll (D.pys ds)).length = ds.length ∧ ((PyData.shownAll (D.pys ds)).map (·.length)).sum ≤ ds.length * B
  | [], _ => ⟨rfl, Nat.zero_le _, rfl, rfl, Nat.zero_le _⟩
  | d :: ds, h => by
    have h0 := h d List.mem_cons_self
    obtain ⟨h1, h2, h3, h4, h5⟩ := shw_all (ds := ds) fun d hd => h d (List.mem_cons_of_mem _ hd)
    refine ⟨?_, ?_, ?_, ?_, ?_⟩
    · show (d.dat && D.dats ds) = true
      rw [h0.dat, h1]; rfl
    · show max d.dep (D.deps ds) ≤ k
      have := h0.dep
      omega
    · show (d.py.showable && PyData.showableAll (D.pys ds)) = true
      rw [h0.sho, h3]; rfl
    · show (PyData.shownAll (D.pys ds)).length + 1 = _
      rw [h4]; rfl
    · show d.py.shown.length + ((PyData.shownAll (D.pys ds)).map (·.length)).sum ≤ (ds.length + 1) * B
      have := h0.len
      rw [Nat.add_mul, Nat.one_mul]
      omega
theorem Shw.lst {k B : Nat} {ds : List D} (h : ∀ d ∈ ds, Shw k B d) : Shw (k + 1) (ds.length * B + 2 * ds.length + 3) (.lst ds) := by
  obtain ⟨h1, h2, h3, h4, h5⟩ := shw_all h
  refine ⟨h1, Nat.succ_le_succ h2, h3, ?_⟩
  show (listText (PyData.shownAll (D.pys ds))).length ≤ _
  have := listText_len_le (PyData.shownAll (D.pys ds))
  rw [h4] at this
  omega
theorem Shw.tup {k B : Nat} {ds : List D} (h : ∀ d ∈ ds, Shw k B d) : Shw (k + 1) (ds.length * B + 2 * ds.length + 3) (.tup ds) := by
  obtain ⟨h1, h2, h3, h4, h5⟩ := shw_all h
  refine ⟨h1, Nat.succ_le_succ h2, h3, ?_⟩
  show (tupleText (PyData.shownAll (D.pys ds))).length ≤ _
  have := tupleText_len_le (PyData.shownAll (D.pys ds))
  rw [h4] at this
  omega
theorem small_shown : ((List.range 100).all fun n => decide ((PyData.int (n : Nat)).shown.length ≤ 2) && (PyData.int (n : Nat)).showable) = true := by decide +kernel
theorem Shw.nat {n : Nat} (h : n < 100) : Shw 0 2 (.int (n : Nat)) := by
  have := List.all_eq_true.mp small_shown n (List.mem_range.mpr h)
  rw [Bool.and_eq_true, decide_eq_true_eq] at this
  exact ⟨rfl, Nat.le_refl _, this.2, this.1⟩
theorem Shw.str {x : Str} {n : Nat} (h : x.length ≤ n) (hc : ∀ c ∈ x.cps.toList, c < 0x110000) : Shw 0 (10 * n + 2) (.str x) := by
  refine ⟨?_, Nat.le_refl _, rfl, ?_⟩
  · show PyData.strOk x = true
    unfold PyData.strOk
    rw [Array.all_eq_true']
    intro c hm
    exact decide_eq_true (hc c (Array.mem_toList_iff.mpr hm))
  · show (reprText x).length ≤ _
    have := StrLaws.reprText_len x fun c hm => Nat.lt_of_lt_of_le (hc c hm) (by decide)
    omega
theorem repr_l {k B : Nat} {ds : List D} (h : Shw k B (.lst ds)) (hk : k ≤ 64) (hB : B ≤ 16777216) : fRepr [.lst ds] = some (.str (D.lst ds).py.shown) := by
  have : (D.lst ds).shows = true := by
    unfold D.shows
    rw [h.dat, h.sho, decide_eq_true (Nat.le_trans h.dep hk), decide_eq_true (show (D.lst ds).py.shown.length ≤ sizeLine by rw [sizeLine_eq]; exact Nat.le_trans h.len hB)]
    rfl
  exact if_pos this
end TM
namespace TM
open PySem PySem.Spec L2
open PyProof.Rows hiding St
theorem Dr.mono {t u : Nat} {S : Sto} (h : Dr t S) (k : t ≤ u) : Dr u S := by
  obtain ⟨c, a, l, x, r, h1, h2, h3, h4, h5, h6, h7, h8⟩ := h.ex
  exact ⟨c, a, l, x, r, h1, h2, h3, h4, by omega, h6, h7, by omega⟩
theorem Dr.app {t : Nat} {S : Sto} (h : Dr t S) (T : Sto) : Dr t (S ++ T) := by
  obtain ⟨c, a, l, x, r, rfl, h2⟩ := h.ex
  exact ⟨c, a, l, x, r ++ T, rfl, h2⟩
theorem jL_nil : ∀ l : List (List Nat), TL.joinL [] l = l.flatten
  | [] => rfl
  | [p] => by simp [TL.joinL]
  | p :: q :: r => by
    show p ++ ([] ++ TL.joinL [] (q :: r)) = _
    rw [jL_nil (q :: r), List.nil_append]
    rfl
theorem join_cps (parts : List Str) : (Txt.join "" parts).cps.toList = (parts.map fun p => p.cps.toList).flatten := by
  have h := TL.tl_join "" parts
  rw [← TL.join_eq] at h
  have e : TL.tl ("" : Str) = [] := rfl
  rw [e, jL_nil] at h
  exact h
theorem strsD_of : ∀ (ys : List D), (∀ (j : Nat) (y : D), ys[j]? = some y → ∃ s, y = .str s) → ∃ ss, strsD ys = some ss ∧ ys = ss.map .str
  | [], _ => ⟨[], rfl, rfl⟩
  | y :: ys, h => by
    obtain ⟨s, rfl⟩ := h 0 y rfl
    obtain ⟨ss, h1, rfl⟩ := strsD_of ys fun j z q => h (j + 1) z (by simpa using q)
    exact ⟨s :: ss, by simp [strsD, h1], rfl⟩
theorem cut_to {α : Type} (xs : List α) (k : Nat) : cutL xs none (some (k : Int)) = xs.take k := by
  unfold cutL
  rw [HT.sIx_nat, HT.sIx_none, List.drop_zero, Nat.sub_zero]
  by_cases h : k ≤ xs.length
  · rw [Nat.min_eq_left h]
  · rw [Nat.min_eq_right (by omega), List.take_of_length_le (Nat.le_refl _), List.take_of_length_le (by omega)]
theorem cut_from {α : Type} (xs : List α) (k : Nat) : cutL xs (some (k : Int)) none = xs.drop k := by
  unfold cutL
  rw [HT.sIx_nat, HT.sIx_none]
  by_cases h : k ≤ xs.length
  · rw [Nat.min_eq_left h, List.take_of_length_le (by rw [List.length_drop]; exact Nat.le_refl _)]
  · rw [Nat.min_eq_right (by omega), Nat.sub_self, List.take_zero, List.drop_of_length_le (by omega)]
theorem sl_to_l (ds : List D) (k : Nat) : fSl01 [.lst ds, .int (k : Nat)] = some (.lst (ds.take k)) := by
  show some (D.lst (cutL ds none (some (k : Int)))) = _
  rw [cut_to]
theorem sl_from_l (ds : List D) (k : Nat) : fSl10 [.lst ds, .int (k : Nat)] = some (.lst (ds.drop k)) := by
  show some (D.lst (cutL ds (some (k : Int)) none)) = _
  rw [cut_from]
theorem sl_to_t (ds : List D) (k : Nat) : fSl01 [.tup ds, .int (k : Nat)] = some (.tup (ds.take k)) := by
  show some (D.tup (cutL ds none (some (k : Int)))) = _
  rw [cut_to]
theorem sl_from_t (ds : List D) (k : Nat) : fSl10 [.tup ds, .int (k : Nat)] = some (.tup (ds.drop k)) := by
  show some (D.tup (cutL ds (some (k : Int)) none)) = _
  rw [cut_from]
theorem er_map {α β : Type} (f : α → β) : ∀ (l : List α) (k : Nat), (l.map f).eraseIdx k = (l.eraseIdx k).map f
  | [], _ => rfl
  | _ :: _, 0 => rfl
  | a :: l, k + 1 => by
    show f a :: (l.map f).eraseIdx k = f a :: (l.eraseIdx k).map f
    rw [er_map f l k]
end TM
namespace TM
open PySem PySem.Spec L2
open PyProof.Rows hiding St

/-! dict(a list of pairs) -/
def pairsD : List D → Option (List (Key × D))
  | [] => some []
  | .tup [k, v] :: ds => match keyD k, pairsD ds with
    | some x, some r => some ((x, v) :: r)
    | _, _ => none
  | _ :: _ => none
def fDict : PF
  | [.lst ds] => match pairsD ds with
    | some kvs => some (.dct ((mergeKD [] kvs).map (·.1)) ((mergeKD [] kvs).map (·.2)))
    | none => none
  | _ => none
theorem pairs_rep {G : Gb} {rho : List Addr} {F H : Hp} (s : Sub F H) : ∀ {vs : List V} {ds : List D} {kvs : List (Key × D)}, RepL G rho F vs ds → pairsD ds = some kvs →
    ∃ (ps : List Addr) (ws : List (Key × V)), vs = ps.map V.ref ∧ Paired (fun p kv => SqT G.K H p [kV kv.1, kv.2]) ps ws ∧ KRel G rho F ws kvs
  | _, _, _, .nil, h => by cases h; exact ⟨[], [], rfl, .nil, .nil⟩
  | _, _, kvs, .cons (d := d) (ds := ds) r l, h => by
    unfold pairsD at h
    split at h
    · rename_i e0; cases e0
    · rename_i k v ds' e
      cases e
      split at h
      · rename_i x r' hk hr
        cases h
        obtain ⟨ps, ws, rfl, h2, h3⟩ := pairs_rep s l hr
        cases r with
        | @tup a xs _ t1 t3 z t2 =>
          obtain ⟨kv, vv, rfl, q1, q2⟩ := t2.two
          have := rep_key q1 hk
          subst this
          exact ⟨a :: ps, (x, vv) :: ws, rfl, .cons (sqT_mono s t1) h2, .cons q2 h3⟩
      · cases h
    · cases h
theorem ok_dict {X : Cx} : PrimOk X.gb (fun xs H Q => ∃ (a : Addr) (ps : List Addr) (kvs : List (Key × V)), xs = [.ref a] ∧ SqL X.K H a (ps.map V.ref) ∧ Paired (fun p kv => SqT X.K H p [kV kv.1, kv.2]) ps kvs ∧
    ∀ p, H p = none → Q (.ref p) (upd H p (.dK (mergeK [] kvs)))) fDict := by
  intro rho F H vs ds d Q s hr hf q
  unfold fDict at hf
  split at hf
  · split at hf
    · rename_i kvs hk
      cases hf
      obtain ⟨v, rfl, h1⟩ := repBL1 hr
      obtain ⟨a, xs, rfl, t, z, l⟩ := repB_lst s h1
      obtain ⟨ps, ws, rfl, h2, h3⟩ := pairs_rep s l hk
      refine ⟨a, ps, ws, rfl, t, h2, fun p hp => ?_⟩
      have m := h3.merge (vs := []) (ds := []) .nil
      have g := Grow.alloc (o := .dK (mergeK [] ws)) s hp
      have m2 := m.mono (g.sub s) (Pre.refl rho)
      exact q _ _ _ g (.dct upd_same m2.keys m2.vals)
    · cases hf
  · cases hf

/-! xs.reverse(), xs.extend(a new list) -/
def mfReverse : MF := fun xs ds => match ds with
  | [] => some (xs.reverse, .non)
  | _ => none
theorem ok_reverse {G : Gb} : MutOk G rReverse mfReverse := by
  intro rho F H a vs as xs ds ys d Q s hx l la hf z q
  unfold mfReverse at hf
  split at hf
  · cases hf
    cases la
    exact ⟨a, vs, rfl, rfl, hx, q _ _ l.reverse .non⟩
  · cases hf
def mExt (i : Nat) (m : Wx) : Ex := fun e S => match e[i]? with
  | some (some (.own _)) => (m e S).bind fun s e S => match s with
    | .own ds => match e[i]? with
      | some (some (.own xs)) => if xs.length + ds.length ≤ sizeLine then .ok .non (e.set i (some (.own (xs ++ ds)))) S else .stuck
      | _ => .stuck
    | _ => .stuck
  | _ => .stuck
section
variable {X : Cx} {W : WX} {ent : Ent} {Z : En} {N : List Str} {sc : Scope} {fs : Str → Bool} {k : Nat}
theorem sem_ext {i : Nat} {y : Str} {x : Expr} {m : Wx} {p apos cpos : Pos} (c : Bx Z N sc fs k X W) (hv : vOk N sc i y = true) (hx : PE X x (rdW X.gb W ent m)) (hpl : plainA x = true := by rfl)
    (hbase : attributeBase (.Name y p) "extend" X.env (eval (.Name y p) X.env) = eval (.Name y p) X.env := by rfl)
    (hfew : ((backTo cpos (starEach [x] X.env)).all (fun x => !x.1) && (backToKw cpos (keywordEach [] X.env)).all (fun x => x.1.isSome)
      && decide (([x] : List Expr).length + ([] : List Keyword).length + (if ([] : List Keyword).isEmpty then 0 else 1) < 30)) = true := by rfl)
    (hline : (apos.endLine == cpos.line) = true := by rfl) : PE X (.Call (.Attribute (.Name y p) "extend" apos) [x] [] cpos) (rdE X.gb W ent (mExt i m)) :=
  (pe_bm PySem.F.plainAttrs_list PySem.F.slot_list_extend PySem.F.type_list_extend mt_extend (rv c i hv) (pa_cons hx pa_nil (star_plain hpl [] _)) hbase hfew hline (star_plain hpl [] _) (back_plain (es := []) rfl)).weak fun σ H Q ⟨e, S, F, rho, hR, hp⟩ => by
    unfold mExt at hp
    split at hp
    · rename_i d0 hi
      obtain ⟨a, q1, ⟨xs0, hx0, _, _⟩, _⟩ := hR.own i _ hi rfl
      refine ⟨.ref a, q1, .inl ⟨rfl, xs0, .of hx0⟩, e, S, F, rho, hR, ?_⟩
      cases q : m e S with
      | ok s e1 S1 =>
        rw [q] at hp
        intro v H' F' rho' r' sb pr w
        replace hp : postE X.gb W ent σ F rho Q (match (generalizing := false) s with
          | .own ds => match e1[i]? with
            | some (some (.own xs)) => if xs.length + ds.length ≤ sizeLine then .ok .non (e1.set i (some (.own (xs ++ ds)))) S1 else .stuck
            | _ => .stuck
          | _ => .stuck) := hp
        cases s with
        | own ds =>
          replace hp : postE X.gb W ent σ F rho Q (match e1[i]? with
            | some (some (.own xs)) => if xs.length + ds.length ≤ sizeLine then .ok .non (e1.set i (some (.own (xs ++ ds)))) S1 else .stuck
            | _ => .stuck) := hp
          split at hp
          · rename_i xs hi2
            split at hp
            · rename_i hz
              obtain ⟨b, rfl, ⟨zs, hb, zb, lb⟩, _⟩ := w.own_of rfl
              obtain ⟨a', k1, ⟨vs0, kx, kz, kl⟩, _⟩ := r'.own i _ hi2 rfl
              rw [q1] at k1; cases k1
              refine ⟨a, b, vs0, zs, rfl, rfl, kx, hb, by rw [kl.length, lb.length]; exact hz, ?_⟩
              exact hp .non _ F' rho' (r'.upOwn hi2 rfl q1 ⟨_, upd_same, by rw [List.length_append, kl.length, lb.length]; exact hz, kl.append lb⟩ rfl) sb pr .non
            · exact hp.elim
          · exact hp.elim
        | val _ => exact hp.elim
        | ownd _ => exact hp.elim
        | ownt _ => exact hp.elim
      | exc x e1 S1 => rw [q] at hp; exact hp
      | stuck => rw [q] at hp; exact hp.elim
    · exact hp.elim
end
end TM
namespace TM
open PySem PySem.Spec L2
open PyProof.Rows hiding St

/-! a value to any target -/
def sAsg (t : Tg) (m : Ex) : Sm := fun e S => (m e S).bind fun d e S => match t.asg d e with
  | some e' => .ok .next e' S
  | none => .stuck
theorem semS_asg {X : Cx} {W : WX} {ent : Ent} {tg value : Expr} {m : Ex} {t : Tg} {g : TG} {pos : Pos} (hx : PE X value (rdE X.gb W ent m)) (hg : PG X tg g) (ht : TgR X.gb g t)
    (hs : swapsWithSole [tg] value pos.line X.env = pure false := by rfl) (hw : swappedStores [tg] value X.env = pure none := by rfl) (h1 : (assignEach [tg] X.env).map (·.2) = [assign tg X.env] := by rfl) :
    PS X (.Assign [tg] value pos) (rdS X.gb W ent (sAsg t m)) :=
  (ps_asg hx hg hs hw h1).weak fun Dn σ H ⟨e, S, F, rho, hR, hp⟩ => by
    refine ⟨e, S, F, rho, hR, ?_⟩
    unfold sAsg at hp
    cases q : m e S with
    | ok d e1 S1 =>
      rw [q] at hp
      intro v H' F' rho' r s p rep
      replace hp : postS X.gb W ent F rho Dn (match t.asg d e1 with
        | some e' => .ok .next e' S1
        | none => .stuck) := hp
      cases ha : t.asg d e1 with
      | none => rw [ha] at hp; exact hp.elim
      | some e' =>
        rw [ha] at hp
        exact ht r rep ha fun σ' r' _ _ => hp σ' H' F' rho' r' s p
    | exc x e1 S1 => rw [q] at hp; exact hp σ
    | stuck => rw [q] at hp; exact hp

/-! names, and a tuple target last, by values written out -/
theorem WRL.split {G : Gb} {ent : Ent} {rho : List Addr} {F H : Hp} {e : Env} {σ : L2.St} {s : Slot} : ∀ {ss : List Slot} {vs : List V}, WRL G ent rho F H e σ vs (ss ++ [s]) → ∃ vs' v, vs = vs' ++ [v] ∧ WRL G ent rho F H e σ vs' ss ∧ WRep G ent rho F H e σ v s
  | [], vs, h => by
    cases h with
    | cons r t d => cases t; exact ⟨[], _, rfl, .nil, r⟩
  | a :: ss, vs, h => by
    cases h with
    | @cons v0 _ vs0 _ r t d =>
      obtain ⟨vs', v, rfl, h2, h3⟩ := WRL.split t
      refine ⟨v0 :: vs', v, rfl, .cons r h2 fun b j u hs ev hj hu hv => ?_, h3⟩
      have hjl : j < ss.length := (List.getElem?_eq_some_iff.mp hj).1
      have hjv : j < vs'.length := (List.getElem?_eq_some_iff.mp hv).1
      exact d b j u hs ev (by show (ss ++ [s])[j]? = _; rw [List.getElem?_append_left hjl]; exact hj) hu (by rw [List.getElem?_append_left hjv]; exact hv)
def gNamesL (g : TG) : List Nat → TGs
  | [] => gCons g gNil
  | i :: is => gCons (gName i) (gNamesL g is)
theorem gNamesL_of {g : TG} {v : V} : ∀ {is : List Nat} {vs : List V} {σ : L2.St} {H : Hp} {Q : L2.St → Hp → Prop}, vs.length = is.length → g v (setAll is vs σ) H (fun σ' H' => ([] : List V) = [] ∧ Q σ' H') → gNamesL g is (vs ++ [v]) σ H Q
  | [], [], σ, H, Q, _, h => ⟨v, [], rfl, h⟩
  | i :: is, u :: vs, σ, H, Q, hl, h => ⟨u, vs ++ [v], rfl, gNamesL_of (by simpa using hl) h⟩
  | [], _ :: _, _, _, _, hl, _ => by simp at hl
  | _ :: _, [], _, _, _, hl, _ => by simp at hl
/-- i, j, .. (names), then a target, by values -/
def sParL (is : List Nat) (t : Tg) (ms : List Wx) (m : Ex) : Sm := fun e S => (evW ms e S).bind fun ss e S => (m e S).bind fun d e S => match t.asg d (setAll is ss e) with
  | some e' => .ok .next e' S
  | none => .stuck
theorem evW_snoc (m : Ex) : ∀ (ms : List Wx) (e : Env) (S : Sto), evW (ms ++ [wVal m]) e S = (evW ms e S).bind fun ss e S => (m e S).bind fun d e S => .ok (ss ++ [.val d]) e S
  | [], e, S => by
    show ((m e S).bind fun d e S => Out.ok (Slot.val d) e S).bind _ = (m e S).bind _
    cases m e S <;> rfl
  | n :: ms, e, S => by
    show (n e S).bind _ = ((n e S).bind _).bind _
    cases n e S with
    | ok s e1 S1 =>
      show (evW (ms ++ [wVal m]) e1 S1).bind _ = ((evW ms e1 S1).bind _).bind _
      rw [evW_snoc m ms e1 S1]
      cases evW ms e1 S1 with
      | ok ss e2 S2 =>
        show ((m e2 S2).bind _).bind _ = (m e2 S2).bind _
        cases m e2 S2 <;> rfl
      | exc _ _ _ => rfl
      | stuck => rfl
    | exc _ _ _ => rfl
    | stuck => rfl
theorem semS_parL {X : Cx} {W : WX} {ent : Ent} {ts es : List Expr} {is : List Nat} {t : Tg} {g : TG} {ms : List Wx} {m : Ex} {pos pt pt2 : Pos} {kt k2} (hc : X.calm = true) (hl : is.length = ms.length) (hz : ms.length + 1 ≤ sizeLine) (hg : PGs X ts (gNamesL g is)) (ht : TgR X.gb g t) (ha : WxE X W es (ms ++ [wVal m])) (hls : ts.length = is.length + 1)
    (hn : (assignEach ts X.env).length = is.length + 1) (hst : (assignEach ts X.env).findIdx? (·.1) = none)
    (hw : swappedStores [.Tuple ts kt pt] (.Tuple es k2 pt2) X.env = pure none) (hm : (assignEach [.Tuple ts kt pt] X.env).map (·.2) = [assign (.Tuple ts kt pt) X.env]) :
    PS X (.Assign [.Tuple ts kt pt] (.Tuple es k2 pt2) pos) (rdS X.gb W ent (sParL is t ms m)) :=
  (ps_asg (pe_tup (pa_wx ha)) (pg_tup hc hg hn hst) rfl hw hm).weak fun Dn σ H ⟨e, S, F, rho, hR, hp⟩ => by
    refine tWs_of hR ?_
    rw [evW_snoc]
    unfold sParL at hp
    cases q : evW ms e S with
    | ok ss e1 S1 =>
      rw [q] at hp
      replace hp : postS X.gb W ent F rho Dn ((m e1 S1).bind fun d e S => match t.asg d (setAll is ss e) with
        | some e' => .ok .next e' S
        | none => .stuck) := hp
      show postWs X.gb W ent σ F rho _ ((m e1 S1).bind fun d e S => .ok (ss ++ [.val d]) e S)
      cases q2 : m e1 S1 with
      | ok d e2 S2 =>
        rw [q2] at hp
        replace hp : postS X.gb W ent F rho Dn (match t.asg d (setAll is ss e2) with
          | some e' => .ok .next e' S2
          | none => .stuck) := hp
        intro vs H' F' rho' r s p w
        obtain ⟨vs', v, rfl, w1, w2⟩ := w.split
        have hss : ss.length = ms.length := evW_length q
        have hvs : vs'.length = is.length := by rw [w1.length, hss, hl]
        refine ⟨by rw [List.length_append, List.length_singleton, hvs, hl]; exact hz, fun a ha2 => ⟨a, vs' ++ [v], rfl, .of upd_same, by rw [List.length_append, List.length_singleton, hvs], gNamesL_of hvs ?_⟩⟩
        cases hta : t.asg d (setAll is ss e2) with
        | none => rw [hta] at hp; exact hp.elim
        | some e' =>
          rw [hta] at hp
          have r1 := R.setAll (is := is) (by rw [hl, hss]) r w1
          have rep : Rep X.gb rho' F' v d := w2
          exact ht (r1.lay ha2) rep hta fun σ' r' _ _ => ⟨rfl, hp σ' _ F' rho' r' s p⟩
      | exc x e2 S2 => rw [q2] at hp; exact hp σ
      | stuck => rw [q2] at hp; exact hp
    | exc x e1 S1 => rw [q] at hp; exact hp σ
    | stuck => rw [q] at hp; exact hp
section
variable {X : Cx} {W : WX} {ent : Ent} {Z : En} {N : List Str} {sc : Scope} {fs : Str → Bool} {k : Nat} {pos p pt2 : Pos}
theorem pgs_l {x : Str} {es : List Expr} {i : Nat} {is : List Nat} {g : TG} (c : Bx Z N sc fs k X W) (h : tOk N sc fs i x = true) (t : PGs X es (gNamesL g is)) (hp : plainA (.Name x p) = true := by rfl) : PGs X (.Name x p :: es) (gNamesL g (i :: is)) := pgs_cons (gn c i h) t
theorem sparL {ts es : List Expr} {is : List Nat} {t : Tg} {g : TG} {ms : List Wx} {m : Ex} {pt : Pos} {kt k2} (c : Bx Z N sc fs k X W) (hg : PGs X ts (gNamesL g is)) (ht : TgR X.gb g t) (ha : WxE X W es (ms ++ [wVal m])) (hw : swC sc ts es = some none)
    (hl : is.length = ms.length := by rfl) (hz : ms.length + 1 ≤ sizeLine := by decide) (hls : ts.length = is.length + 1 := by rfl) (hn : (assignEach ts X.env).length = is.length + 1 := by rfl) (hst : (assignEach ts X.env).findIdx? (·.1) = none := by rfl)
    (hm : (assignEach [.Tuple ts kt pt] X.env).map (·.2) = [assign (.Tuple ts kt pt) X.env] := by rfl) :
    PS X (.Assign [.Tuple ts kt pt] (.Tuple es k2 pt2) pos) (rdS X.gb W ent (sParL is t ms m)) :=
  semS_parL c.calm hl hz hg ht ha hls hn hst (sw_of hw c.s) hm
end
end TM
namespace TM
open PySem PySem.Spec L2
open PyProof.Rows hiding St

/-! a tuple's items to names, one of them starred -/
section
variable {P : Program} {w : World} {A : Around} {E : Value → Shared → Prop} {s : Shared}
theorem starT {t : Addr} {xs : Array Value} {n i : Nat} {Q : List Value → Shared → Prop} (T : IsTup s.heap t xs) (hh : A.handled = none) (lt : i < n) (le : n ≤ xs.size + 1) (z : xs.size ≤ sizeLine)
    (q : ∀ (g : Heap) (tk : Nat), (∀ b o, s.heap.get? b = some o → g.get? b = some o) →
      Q (xs.toList.take i ++ [Value.ref g.objs.size] ++ (xs.toList.drop i).drop (xs.size + 1 - n)) { s with heap := g.push { cls := .type "list", data := .seq ((xs.toList.drop i).take (xs.size + 1 - n)).toArray }, toks := tk }) : wpAny (model P w) A (unpackItems (.ref t) n (some i)) Q E s := by
  have l0 : t < s.heap.objs.size := let ⟨_, e, _⟩ := T; Heap.lt_size e
  have l1 : t ≠ s.heap.objs.size := Nat.ne_of_lt l0
  have e1 : (xs.toList.take i).length = i := by simp; omega
  have e2 : (xs.toList.drop i).length = xs.size - i := by simp
  unfold unpackItems notIterableAtAll
  refine wpAny_bind (wpAny_bind (wpAny_specialOf T.typeIs PySem.F.slot_tuple_iter.lookup (wpAny_pure ?_)))
  rw [if_neg (by simp)]
  refine wpAny_bind (wpAny_holding (iter_tuple T ?_))
  refine wpAny_bind (wpAny_holding (draw_tuple l1 i 0 _ _ ⟨_, Heap.get?_push_size _ rfl, rfl, rfl⟩ (T.push _) (by omega) fun g I g1 => ?_))
  have T1 := (T.push _).extBut g1.extBut l1
  rw [Nat.zero_add] at I
  rw [List.drop_zero, if_neg (by rw [e1]; omega)]
  have f1 : s.heap.objs.size < g.objs.size := let ⟨_, e, _⟩ := I; Heap.lt_size e
  have f2 : t < g.objs.size := let ⟨_, e, _⟩ := T1; Heap.lt_size e
  refine wpAny_bind (wpAny_holding (PySem.W.kun_collect (s := { s with heap := g }) (.inr (.inr (.inr rfl))) (Walks.tuple (A := A.in1) hh _ t l1 xs) (fun j u st => st.1.typeIs) (k := i) (by omega) ⟨I, T1⟩ f1 f2 (fun g2 tk k2 => ?_) z))
  dsimp only
  rw [if_neg (by rw [e2]; omega), show (xs.toList.drop i).length - (n - 1 - i) = xs.size + 1 - n by rw [e2]; omega]
  have k3 : ∀ b o, s.heap.get? b = some o → g2.get? b = some o := fun b o e => have l : b < s.heap.objs.size := Heap.lt_size e
    k2 b o (Nat.ne_of_lt l) (g1.extBut b o (Nat.ne_of_lt l) (Heap.get?_push_of_some _ e))
  refine wpAny_bind (wpAny_newObj_type ?_ ?_)
  · exact wpAny_pure (q g2 tk k3)
  · show _ ≤ sizeLine
    simp only [List.size_toArray, List.length_take, e2]
    omega
end
section
variable {X : Cx} {pos : Pos}
/-- to names, the i-th of n starred: a new list of what is between -/
def gStar (K : PySem.W.Frag) (n i : Nat) (t : TGs) : TG := fun v σ H Q => ∃ (a : Addr) (xs : List V), v = .ref a ∧ SqT K H a xs ∧ i < n ∧ n ≤ xs.length + 1 ∧
  ∀ b, H b = none → t (xs.take i ++ [.ref b] ++ (xs.drop i).drop (xs.length + 1 - n)) σ (upd H b (.lst ((xs.drop i).take (xs.length + 1 - n)))) Q
theorem pg_star {es : List Expr} {kt n i : Nat} {t : TGs} (hc : X.calm = true) (h : PGs X es t) (hn : (assignEach es X.env).length = n := by rfl) (hst : (assignEach es X.env).findIdx? (·.1) = some i := by rfl) : PG X (.Tuple es kt pos) (gStar X.K n i t) := by
  refine ⟨fun pins s σ H v u Q J r ⟨a, xs, q1, q2, q3, q4, q5⟩ => ?_⟩
  subst q1
  cases r
  obtain ⟨its, rv, T, z⟩ := J.tuple q2
  have e : its.length = xs.length := rv.length.symm
  rw [assign_Tuple]
  refine wpAny_bind (wpAny_standAt ?_)
  unfold unpack
  rw [hn, hst]
  refine wpAny_bind (wpAny_holding (starT T (J.ok.hd hc) q3 (by simpa [e] using q4) (by simpa [e] using z) fun g tk k => ?_))
  have J1 : Inv X pins σ H { s with heap := g } := J.kept (t' := s.toks) k
  have J2 := J1.laid (o := .lst ((xs.drop i).take (xs.length + 1 - n))) (t' := tk) (fun b o e => Heap.get?_push_of_some { cls := .type "list", data := .seq ((its.drop i).take (xs.length + 1 - n)).toArray } e) (Nat.le_refl _)
    ⟨by rw [List.length_take, List.length_drop]; omega, _, 0, (rv.drop i).take _, Heap.get?_push_size _ rfl⟩
  have f : H g.objs.size = none := J1.hok.fresh (Nat.le_refl _)
  have q6 := h.run pins _ σ _ _ (its.take i ++ [Value.ref g.objs.size] ++ (its.drop i).drop (xs.length + 1 - n)) Q J2 (((rv.take i).append (.cons (show RelV (.ref g.objs.size) (.ref g.objs.size) from rfl) .nil)).append ((rv.drop i).drop _)) (q5 _ f)
  simpa [e] using q6
end
theorem WRL.vals {G : Gb} {ent : Ent} {rho : List Addr} {F H : Hp} {e : Env} {σ : L2.St} {v : V} {s : Slot} (h : WRep G ent rho F H e σ v s) : ∀ {vs : List V} {ds : List D}, RepL G rho F vs ds → WRL G ent rho F H e σ (vs ++ [v]) (ds.map .val ++ [s])
  | _, _, .nil => .cons h .nil fun _ _ _ _ _ e => by simp at e
  | _, _, .cons r t => .cons r (WRL.vals h t) fun _ _ _ e => by cases e
/-- names, the last one starred, by a tuple's items -/
def sStar (is : List Nat) (j : Nat) (m : Ex) : Sm := fun e S => (m e S).bind fun d e S => match d with
  | .tup ds => if is.length ≤ ds.length then .ok .next (setAll (is ++ [j]) ((ds.take is.length).map .val ++ [.own (ds.drop is.length)]) e) S else .stuck
  | _ => .stuck
theorem semS_star {X : Cx} {W : WX} {ent : Ent} {ts : List Expr} {value : Expr} {is : List Nat} {j : Nat} {m : Ex} {pos pt : Pos} {kt} (hc : X.calm = true) (hx : PE X value (rdE X.gb W ent m)) (hg : PGs X ts (gNames (is ++ [j])))
    (hn : (assignEach ts X.env).length = is.length + 1) (hst : (assignEach ts X.env).findIdx? (·.1) = some is.length)
    (hs : swapsWithSole [.Tuple ts kt pt] value pos.line X.env = pure false) (hw : swappedStores [.Tuple ts kt pt] value X.env = pure none) (hm : (assignEach [.Tuple ts kt pt] X.env).map (·.2) = [assign (.Tuple ts kt pt) X.env]) :
    PS X (.Assign [.Tuple ts kt pt] value pos) (rdS X.gb W ent (sStar is j m)) :=
  (ps_asg hx (pg_star hc hg hn hst) hs hw hm).weak fun Dn σ H ⟨e, S, F, rho, hR, hp⟩ => by
    refine ⟨e, S, F, rho, hR, ?_⟩
    unfold sStar at hp
    cases q : m e S with
    | ok d e1 S1 =>
      rw [q] at hp
      intro v H' F' rho' r s p rep
      cases d with
      | tup ds =>
        replace hp : postS X.gb W ent F rho Dn (if is.length ≤ ds.length then .ok .next (setAll (is ++ [j]) ((ds.take is.length).map .val ++ [.own (ds.drop is.length)]) e1) S1 else .stuck) := hp
        split at hp
        · rename_i hl
          cases rep with
          | tup t1 t2 z l =>
            have el := l.length
            refine ⟨_, _, rfl, sqT_mono r.sub t1, Nat.lt_succ_self _, by omega, fun b hb => ?_⟩
            obtain ⟨r2, w2⟩ := r.newL hb (by rw [List.length_drop, el]; exact Nat.le_trans (Nat.sub_le _ _) (by rw [← el]; exact z)) (l.drop is.length)
            have e3 : ∀ {α : Type} (ys : List α), ys.length = ds.length → (ys.drop is.length).take (ys.length + 1 - (is.length + 1)) = ys.drop is.length := fun ys h => List.take_of_length_le (by rw [List.length_drop]; omega)
            have e4 : ∀ {α : Type} (ys : List α), ys.length = ds.length → (ys.drop is.length).drop (ys.length + 1 - (is.length + 1)) = [] := fun ys h => List.drop_eq_nil_of_le (by rw [List.length_drop]; omega)
            rw [e3 _ el, e4 _ el, List.append_nil]
            have w := WRL.vals w2 (l.take is.length)
            refine gNames_of (by simp; omega) (hp _ _ _ rho' (R.setAll (by simp; omega) r2 w) s p)
        · exact hp.elim
      | _ => exact hp.elim
    | exc x e1 S1 => rw [q] at hp; exact hp σ
    | stuck => rw [q] at hp; exact hp
theorem WRL.allV {G : Gb} {ent : Ent} {rho : List Addr} {F H : Hp} {e : Env} {σ : L2.St} : ∀ {vs : List V} {ds : List D}, RepL G rho F vs ds → WRL G ent rho F H e σ vs (ds.map .val)
  | _, _, .nil => .nil
  | _, _, .cons r t => .cons r (WRL.allV t) fun _ _ _ e => by cases e
/-- names, by the items of a list -/
def sLst (is : List Nat) (m : Ex) : Sm := fun e S => (m e S).bind fun d e S => match d with
  | .lst ds => if ds.length = is.length then .ok .next (setAll is (ds.map .val) e) S else .stuck
  | _ => .stuck
theorem semS_lstT {X : Cx} {W : WX} {ent : Ent} {ts : List Expr} {value : Expr} {is : List Nat} {m : Ex} {pos pt : Pos} {kt} (hc : X.calm = true) (hx : PE X value (rdE X.gb W ent m)) (hg : PGs X ts (gNames is))
    (hn : (assignEach ts X.env).length = is.length) (hst : (assignEach ts X.env).findIdx? (·.1) = none)
    (hs : swapsWithSole [.Tuple ts kt pt] value pos.line X.env = pure false) (hw : swappedStores [.Tuple ts kt pt] value X.env = pure none) (hm : (assignEach [.Tuple ts kt pt] X.env).map (·.2) = [assign (.Tuple ts kt pt) X.env]) :
    PS X (.Assign [.Tuple ts kt pt] value pos) (rdS X.gb W ent (sLst is m)) :=
  (ps_asg hx (pg_lst hc hg hn hst) hs hw hm).weak fun Dn σ H ⟨e, S, F, rho, hR, hp⟩ => by
    refine ⟨e, S, F, rho, hR, ?_⟩
    unfold sLst at hp
    cases q : m e S with
    | ok d e1 S1 =>
      rw [q] at hp
      intro v H' F' rho' r s p rep
      cases d with
      | lst ds =>
        replace hp : postS X.gb W ent F rho Dn (if ds.length = is.length then .ok .next (setAll is (ds.map .val) e1) S1 else .stuck) := hp
        split at hp
        · rename_i hl
          cases rep with
          | lst t1 z l =>
            have el := l.length
            exact ⟨_, _, rfl, sqL_mono r.sub t1, el.trans hl, gNames_of (el.trans hl) (hp _ _ _ rho' (R.setAll (by simp; omega) r (WRL.allV l)) s p)⟩
        · exact hp.elim
      | _ => exact hp.elim
    | exc x e1 S1 => rw [q] at hp; exact hp σ
    | stuck => rw [q] at hp; exact hp
section
variable {X : Cx} {W : WX} {ent : Ent} {Z : En} {N : List Str} {sc : Scope} {fs : Str → Bool} {k : Nat} {pos p pt2 : Pos}
theorem pgs_s {x : Str} {i : Nat} (c : Bx Z N sc fs k X W) (h : tOk N sc fs i x = true) : PGs X [.Starred (.Name x p) pt2] (gNames [i]) := by
  have a : PGs X [.Name x p] (gNames [i]) := pgs_cons (gn c i h) pgs_nil
  exact ⟨fun pins s σ H vs us Q I r q => a.run pins s σ H vs us Q I r q⟩
theorem sstar {ts : List Expr} {value : Expr} {is : List Nat} {j : Nat} {m : Ex} {pt : Pos} {kt} (c : Bx Z N sc fs k X W) (hx : PE X value (rdE X.gb W ent m)) (hg : PGs X ts (gNames (is ++ [j])))
    (hn : (assignEach ts X.env).length = is.length + 1 := by rfl) (hst : (assignEach ts X.env).findIdx? (·.1) = some is.length := by rfl)
    (hs : swapsWithSole [.Tuple ts kt pt] value pos.line X.env = pure false := by rfl) (hw : swappedStores [.Tuple ts kt pt] value X.env = pure none := by rfl) (hm : (assignEach [.Tuple ts kt pt] X.env).map (·.2) = [assign (.Tuple ts kt pt) X.env] := by rfl) :
    PS X (.Assign [.Tuple ts kt pt] value pos) (rdS X.gb W ent (sStar is j m)) := semS_star c.calm hx hg hn hst hs hw hm
theorem slstT {ts : List Expr} {value : Expr} {is : List Nat} {m : Ex} {pt : Pos} {kt} (c : Bx Z N sc fs k X W) (hx : PE X value (rdE X.gb W ent m)) (hg : PGs X ts (gNames is))
    (hn : (assignEach ts X.env).length = is.length := by rfl) (hst : (assignEach ts X.env).findIdx? (·.1) = none := by rfl)
    (hs : swapsWithSole [.Tuple ts kt pt] value pos.line X.env = pure false := by rfl) (hw : swappedStores [.Tuple ts kt pt] value X.env = pure none := by rfl) (hm : (assignEach [.Tuple ts kt pt] X.env).map (·.2) = [assign (.Tuple ts kt pt) X.env] := by rfl) :
    PS X (.Assign [.Tuple ts kt pt] value pos) (rdS X.gb W ent (sLst is m)) := semS_lstT c.calm hx hg hn hst hs hw hm
end
end TM
namespace TM
open PySem PySem.Spec L2
open PyProof.Rows hiding St
mutual
def D.noRef : D → Bool
  | .non | .bl _ | .int _ | .str _ => true
  | .tup ds => noRefs ds
  | .lst ds => noRefs ds
  | _ => false
def noRefs : List D → Bool
  | [] => true
  | d :: ds => d.noRef && noRefs ds
end
def lentS : Option Slot → Option Slot
  | some (.val d) => if d.noRef then some (.val d) else none
  | some (.own ds) => if noRefs ds then some (.val (.lst ds)) else none
  | _ => none
def tLend (t : Tx) : Tx := fun e S => match t (e.map lentS) [] with
  | .ok b _ _ => .ok b e S
  | _ => .stuck
mutual
theorem Rep.low {G : Gb} {rho rho' : List Addr} {F F' : Hp} (s : Sub F F') : ∀ {v : V} {d : D}, Rep G rho F v d → d.noRef = true → Rep G rho' F' v d
  | _, _, .non, _ => .non
  | _, _, .bl _, _ => .bl _
  | _, _, .int _, _ => .int _
  | _, _, .str _, _ => .str _
  | _, _, .tup a b z l, h => .tup (sqT_mono s a) (fun k => s _ _ (b k)) z (RepL.low s l (by simpa [D.noRef] using h))
  | _, _, .lst a z l, h => .lst (sqL_mono s a) z (RepL.low s l (by simpa [D.noRef] using h))
theorem RepL.low {G : Gb} {rho rho' : List Addr} {F F' : Hp} (s : Sub F F') : ∀ {v : List V} {d : List D}, RepL G rho F v d → noRefs d = true → RepL G rho' F' v d
  | _, _, .nil, _ => .nil
  | _, _, .cons r t, h => by
    simp only [noRefs, Bool.and_eq_true] at h
    exact .cons (Rep.low s r h.1) (RepL.low s t h.2)
end
theorem lent_val {o : Option Slot} {s : Slot} (q : lentS o = some s) : s.isVal = true := by
  unfold lentS at q
  split at q
  · split at q <;> cases q; rfl
  · split at q <;> cases q; rfl
  · cases q
theorem lent_at {e : Env} {i : Nat} {s : Slot} (q : (e.map lentS)[i]? = some (some s)) : s.isVal = true := by
  rw [List.getElem?_map] at q
  cases hi : e[i]? with
  | none => rw [hi] at q; cases q
  | some o => rw [hi] at q; exact lent_val (by injection q)
theorem semT_lend {X : Cx} {W : WX} {ent : Ent} {cd : Expr} {t : Tx} (h : ∀ ent, PT X cd (rdT X.gb W ent t)) : PT X cd (rdT X.gb W ent (tLend t)) :=
  ⟨fun pins s σ H Q I ⟨e, S, F, rho, r, hp⟩ => (h ⟨fun _ _ => False, H, []⟩).run pins s σ H Q I ⟨e.map lentS, [], H, [], {
    len := by rw [List.length_map]; exact r.len
    sub := Sub.refl _
    val := fun i d q => by
      rw [List.getElem?_map] at q
      cases hi : e[i]? with
      | none => rw [hi] at q; cases q
      | some o =>
        rw [hi] at q
        replace q : lentS o = some (.val d) := by injection q
        unfold lentS at q
        split at q
        · split at q
          · rename_i hn
            cases q
            obtain ⟨v, a, b⟩ := r.val i _ hi
            exact ⟨v, a, b.low r.sub hn⟩
          · cases q
        · split at q
          · rename_i hn
            cases q
            obtain ⟨a, k, ⟨xs, x1, x2, x3⟩, _⟩ := r.own i _ hi rfl
            exact ⟨_, k, .lst (.inl (.of x1)) x2 (x3.low r.sub hn)⟩
          · cases q
        · cases q
    own := fun i s q hs => by rw [lent_at q] at hs; cases hs
    sep := fun i j s t a q hs => by rw [lent_at q] at hs; cases hs
    slen := rfl
    sto := fun n o a q => by cases q
    nod := .nil
    keep := fun _ _ q => q.elim
    sub0 := Sub.refl _
    pre0 := Pre.refl _ }, by
    unfold tLend at hp
    cases q : t (e.map lentS) [] with
    | ok b e1 S1 =>
      rw [q] at hp
      intro H' F' rho' r' sb pr
      have sH : Sub H H' := fun a o k => r'.sub a o (sb a o k)
      have at_ : ∀ a, H a ≠ none → H' a = H a := fun a k => by
        cases k2 : H a with
        | none => exact (k k2).elim
        | some o => exact sH a o k2
      exact hp H' F rho { r with
        sub := r.sub.trans sH
        own := fun i s k hs => by
          obtain ⟨a, k1, k2, k3⟩ := r.own i s k hs
          exact ⟨a, k1, k2.mono (Sub.refl _) (Pre.refl _) (at_ a k2.isob), k3⟩
        sto := fun n o a k1 k2 => by
          obtain ⟨k3, k4⟩ := r.sto n o a k1 k2
          exact ⟨k3.mono (Sub.refl _) (Pre.refl _) (at_ a k3.isob), k4⟩
        keep := fun a o k => by
          obtain ⟨k1, k2⟩ := r.keep a o k
          exact ⟨sH a o k1, k2⟩ } (Sub.refl _) (Pre.refl _)
    | exc x e1 S1 => rw [q] at hp; exact hp.elim
    | stuck => rw [q] at hp; exact hp.elim⟩⟩
end TM
namespace TM
open PySem PySem.Spec L2
open PyProof.Rows hiding St

/-! ### equality of plain data -/
mutual
/-- no truths, nothing but data -/
def D.nb : D → Bool
  | .non => true | .int _ => true | .str _ => true
  | .tup ds => D.nbs ds | .lst ds => D.nbs ds
  | _ => false
def D.nbs : List D → Bool
  | [] => true
  | d :: ds => d.nb && D.nbs ds
end
mutual
theorem eqv_nb : ∀ {d e : D}, d.nb = true → e.nb = true → (PyData.eqv d.py e.py = true ↔ d = e)
  | .non, e, _, h => by cases e <;> simp [D.nb, D.py, PyData.eqv] at h ⊢
  | .int i, e, _, h => by cases e <;> simp [D.nb, D.py, PyData.eqv] at h ⊢
  | .str i, e, _, h => by cases e <;> simp [D.nb, D.py, PyData.eqv] at h ⊢
  | .tup ds, e, g, h => by
    cases e <;> simp [D.nb, D.py, PyData.eqv] at h ⊢
    exact eqvs_nb (by simpa [D.nb] using g) h
  | .lst ds, e, g, h => by
    cases e <;> simp [D.nb, D.py, PyData.eqv] at h ⊢
    exact eqvs_nb (by simpa [D.nb] using g) h
  | .bl _, _, g, _ => by cases g
  | .dct _ _, _, g, _ => by cases g
  | .dctt _ _, _, g, _ => by cases g
  | .ref _, _, g, _ => by cases g
  | .fn _, _, g, _ => by cases g
  | .cls _, _, g, _ => by cases g
  | .ty _, _, g, _ => by cases g
  | .exn _ _ _, _, g, _ => by cases g
theorem eqvs_nb : ∀ {ds es : List D}, D.nbs ds = true → D.nbs es = true → (PyData.eqvAll (D.pys ds) (D.pys es) = true ↔ ds = es)
  | [], [], _, _ => by simp [D.pys, PyData.eqvAll]
  | [], _ :: _, _, _ => by simp [D.pys, PyData.eqvAll]
  | _ :: _, [], _, _ => by simp [D.pys, PyData.eqvAll]
  | d :: ds, e :: es, g, h => by
    simp only [D.nbs, Bool.and_eq_true] at g h
    simp only [D.pys, PyData.eqvAll, Bool.and_eq_true, List.cons.injEq, eqv_nb g.1 h.1, eqvs_nb g.2 h.2]
end
/-- data that may be compared -/
def D.cmpb (d : D) : Bool := d.nb && d.shp
theorem eqv_cmp {x y : D} (hx : x.cmpb = true) (hy : y.cmpb = true) [Decidable (x = y)] : PyData.eqv x.py y.py = decide (x = y) := by
  unfold D.cmpb at hx hy
  rw [Bool.and_eq_true] at hx hy
  have := eqv_nb hx.1 hy.1
  by_cases e : x = y
  · rw [decide_eq_true e, this.mpr e]
  · rw [decide_eq_false e]
    cases q : PyData.eqv x.py y.py with
    | false => rfl
    | true => exact absurd (this.mp q) e
theorem eqB_cmp {x y : D} (hx : x.cmpb = true) (hy : y.cmpb = true) [Decidable (x = y)] : fEqB x y = some (decide (x = y)) := by
  have e := eqv_cmp hx hy
  unfold D.cmpb at hx hy
  rw [Bool.and_eq_true] at hx hy
  unfold fEqB
  split
  · rename_i a b
    congr 1
  · rw [if_pos ⟨hx.2, hy.2⟩, e]
theorem eq_cmp {x y : D} (hx : x.cmpb = true) (hy : y.cmpb = true) [Decidable (x = y)] : fEq [x, y] = some (.bl (decide (x = y))) := by
  show (fEqB x y).map D.bl = _
  rw [eqB_cmp hx hy]; rfl
theorem ne_cmp {x y : D} (hx : x.cmpb = true) (hy : y.cmpb = true) [Decidable (x = y)] : fNe [x, y] = some (.bl (!decide (x = y))) := by
  show (fEqB x y).map (fun b => D.bl (!b)) = _
  rw [eqB_cmp hx hy]; rfl
theorem cmpb_mk {d : D} (h1 : d.nb = true) (h2 : d.dat = true) (h3 : d.dep ≤ 64) : d.cmpb = true := by
  unfold D.cmpb D.shp
  rw [h1, h2, decide_eq_true h3]; rfl
theorem nbs_all {ds : List D} (h : ∀ d ∈ ds, d.nb = true) : D.nbs ds = true := by
  induction ds with
  | nil => rfl
  | cons d ds ih =>
    show (d.nb && D.nbs ds) = true
    rw [h d List.mem_cons_self, ih fun e he => h e (List.mem_cons_of_mem _ he)]; rfl
theorem dats_all {ds : List D} (h : ∀ d ∈ ds, d.dat = true) : D.dats ds = true := by
  induction ds with
  | nil => rfl
  | cons d ds ih =>
    show (d.dat && D.dats ds) = true
    rw [h d List.mem_cons_self, ih fun e he => h e (List.mem_cons_of_mem _ he)]; rfl
theorem deps_all {ds : List D} {k : Nat} (h : ∀ d ∈ ds, d.dep ≤ k) : D.deps ds ≤ k := by
  induction ds with
  | nil => exact Nat.zero_le _
  | cons d ds ih =>
    show max d.dep (D.deps ds) ≤ k
    have := h d List.mem_cons_self
    have := ih fun e he => h e (List.mem_cons_of_mem _ he)
    omega
/-- well formed, of such a depth: no truths, texts that stand -/
structure Wf (k : Nat) (d : D) : Prop where
  nb : d.nb = true
  dat : d.dat = true
  dep : d.dep ≤ k
theorem Wf.cmp {k : Nat} {d : D} (h : Wf k d) (hk : k ≤ 64 := by decide) : d.cmpb = true := cmpb_mk h.nb h.dat (Nat.le_trans h.dep hk)
theorem Wf.mono {k l : Nat} {d : D} (h : Wf k d) (hk : k ≤ l) : Wf l d := ⟨h.nb, h.dat, Nat.le_trans h.dep hk⟩
theorem Wf.tup {k : Nat} {ds : List D} (h : ∀ d ∈ ds, Wf k d) : Wf (k + 1) (.tup ds) := ⟨nbs_all fun d hd => (h d hd).nb, dats_all fun d hd => (h d hd).dat, Nat.succ_le_succ (deps_all fun d hd => (h d hd).dep)⟩
theorem Wf.lst {k : Nat} {ds : List D} (h : ∀ d ∈ ds, Wf k d) : Wf (k + 1) (.lst ds) := ⟨nbs_all fun d hd => (h d hd).nb, dats_all fun d hd => (h d hd).dat, Nat.succ_le_succ (deps_all fun d hd => (h d hd).dep)⟩
theorem Wf.int (i : Int) : Wf 0 (.int i) := ⟨rfl, rfl, Nat.le_refl _⟩
theorem Wf.non : Wf 0 .non := ⟨rfl, rfl, Nat.le_refl _⟩
theorem strOk_of {x : Str} (h : ∀ c ∈ x.cps.toList, c < 0x110000) : PyData.strOk x = true := by
  unfold PyData.strOk
  rw [Array.all_eq_true']
  intro c hm
  exact decide_eq_true (h c (Array.mem_toList_iff.mpr hm))
theorem Wf.str {x : Str} (h : ∀ c ∈ x.cps.toList, c < 0x110000) : Wf 0 (.str x) := ⟨rfl, strOk_of h, Nat.le_refl _⟩

/-! ### loops that fold -/
theorem forL_step {t : Tg} {m : Sm} {d : D} {e e1 e2 : Env} {S S2 : Sto} (h1 : t.asg d e = some e1) (h2 : m e1 S = .ok .next e2 S2) (ds : List D) : forL t m (d :: ds) e S = forL t m ds e2 S2 := by
  rw [forL, h1]
  simp only [h2, bind_ok]
theorem forL_fold {α σ : Type} {t : Tg} {m : Sm} {S : Sto} (enc : α → D) (E : σ → Env) (step : σ → α → σ) (P : Nat → σ → Prop) : ∀ (xs : List α) (i : Nat) (s : σ), P i s →
    (∀ i s x, x ∈ xs → P i s → (∃ e1, t.asg (enc x) (E s) = some e1 ∧ m e1 S = .ok .next (E (step s x)) S) ∧ P (i + 1) (step s x)) →
    (∀ ds, forL t m (xs.map enc ++ ds) (E s) S = forL t m ds (E (xs.foldl step s)) S) ∧ P (i + xs.length) (xs.foldl step s)
  | [], i, s, h, _ => ⟨fun _ => rfl, h⟩
  | x :: xs, i, s, h, hs => by
    obtain ⟨⟨e1, h1, h2⟩, h3⟩ := hs i s x List.mem_cons_self h
    obtain ⟨k1, k2⟩ := forL_fold enc E step P xs (i + 1) (step s x) h3 fun i s y hy => hs i s y (List.mem_cons_of_mem _ hy)
    refine ⟨fun ds => ?_, by rw [List.length_cons, show i + (xs.length + 1) = i + 1 + xs.length by omega]; exact k2⟩
    rw [List.map_cons, List.cons_append, forL_step h1 h2, k1]
    rfl
theorem forL_rel {α σ : Type} {t : Tg} {m : Sm} (enc : α → D) (R : Nat → σ → Env → Sto → Prop) (step : σ → α → σ) : ∀ (xs : List α) (i : Nat) (s : σ) (e : Env) (S : Sto), R i s e S →
    (∀ j s e S x, x ∈ xs → j < i + xs.length → R j s e S → ∃ e1 e2 S2, t.asg (enc x) e = some e1 ∧ m e1 S = .ok .next e2 S2 ∧ R (j + 1) (step s x) e2 S2) →
    ∃ e' S', (∀ ds, forL t m (xs.map enc ++ ds) e S = forL t m ds e' S') ∧ R (i + xs.length) (xs.foldl step s) e' S'
  | [], i, s, e, S, h, _ => ⟨e, S, fun _ => rfl, h⟩
  | x :: xs, i, s, e, S, h, hs => by
    obtain ⟨e1, e2, S2, h1, h2, h3⟩ := hs i s e S x List.mem_cons_self (by simp) h
    obtain ⟨e', S', k1, k2⟩ := forL_rel enc R step xs (i + 1) (step s x) e2 S2 h3 fun j s e S y hy hj => hs j s e S y (List.mem_cons_of_mem _ hy) (by rw [List.length_cons]; omega)
    refine ⟨e', S', fun ds => ?_, by rw [List.length_cons, show i + (xs.length + 1) = i + 1 + xs.length by omega]; exact k2⟩
    rw [List.map_cons, List.cons_append, forL_step h1 h2, k1]
theorem forL_end {t : Tg} {m : Sm} {ds : List D} {e e' : Env} {S S' : Sto} (h : ∀ ms, forL t m (ds ++ ms) e S = forL t m ms e' S') : forL t m ds e S = .ok .next e' S' := by
  have := h []
  rw [List.append_nil] at this
  rw [this]; rfl
/-- a loop by an invariant; what leaves it early is told -/
theorem forL_inv {t : Tg} {m : Sm} (I : Nat → Env → Sto → Prop) (Q : Out Fl → Prop) : ∀ (ds : List D) (i : Nat) (e : Env) (S : Sto), I i e S →
    (∀ (j : Nat) (d : D) (e : Env) (S : Sto), ds[j]? = some d → I (i + j) e S → ∃ e1, t.asg d e = some e1 ∧ ∃ f e2 S2, m e1 S = .ok f e2 S2 ∧ match f with
      | .next => I (i + j + 1) e2 S2
      | .cont => I (i + j + 1) e2 S2
      | .brk => Q (.ok .next e2 S2)
      | .ret s => Q (.ok (.ret s) e2 S2)) → (∀ e S, I (i + ds.length) e S → Q (.ok .next e S)) → Q (forL t m ds e S)
  | [], i, e, S, h, _, hq => hq e S h
  | d :: ds, i, e, S, h, hs, hq => by
    obtain ⟨e1, h1, f, e2, S2, h2, h3⟩ := hs 0 d e S rfl h
    have go : I (i + 1) e2 S2 → Q (forL t m ds e2 S2) := fun h3 => forL_inv I Q ds (i + 1) e2 S2 h3 (fun j d e S hd hI => by
      have := hs (j + 1) d e S (by simpa using hd) (by rw [show i + (j + 1) = i + 1 + j by omega]; exact hI)
      rw [show i + (j + 1) + 1 = i + 1 + j + 1 by omega] at this
      exact this) fun e S hI => hq e S (by rw [List.length_cons, show i + (ds.length + 1) = i + 1 + ds.length by omega]; exact hI)
    rw [forL, h1]
    simp only [h2, bind_ok]
    cases f with
    | next => exact go h3
    | cont => exact go h3
    | brk => exact h3
    | ret s => exact h3

/-- a comprehension over coded things, filtered -/
theorem compL_map {α : Type} {vs : List Nat} {t : Tg} {tt : Tx} {m : Ex} {e0 : Env} {S : Sto} (enc : α → D) (c : α → Bool) (y : α → D) : ∀ (xs : List α) (acc : List D), acc.length + xs.length ≤ 16777216 →
    (∀ a ∈ xs, ∃ e1 e2 e3, t.asg (enc a) e0 = some e1 ∧ tt e1 S = .ok (c a) e2 S ∧ (c a = true → m e2 S = .ok (y a) e3 S ∧ wipeE e3 vs = e0) ∧ (c a = false → wipeE e2 vs = e0)) →
    compL vs t tt (turn1 m) (xs.map enc) acc e0 S = .ok (acc ++ (xs.filter c).map y) e0 S
  | [], acc, _, _ => by rw [List.filter_nil, List.map_nil, List.map_nil, List.append_nil]; rfl
  | a :: xs, acc, hz, h => by
    rw [List.length_cons] at hz
    obtain ⟨e1, e2, e3, h1, h2, h3, h4⟩ := h a List.mem_cons_self
    rw [List.map_cons, compL, h1]
    by_cases q : c a = true
    · obtain ⟨k1, k2⟩ := h3 q
      have ha : acc.length < sizeLine := by rw [sizeLine_eq]; omega
      rw [q] at h2
      simp only [h2, turn1, k1, if_pos ha, k2]
      rw [List.filter_cons_of_pos q, List.map_cons, show acc ++ y a :: (xs.filter c).map y = acc ++ [y a] ++ (xs.filter c).map y by simp]
      exact compL_map enc c y xs (acc ++ [y a]) (by rw [List.length_append, List.length_singleton]; omega) fun b hb => h b (List.mem_cons_of_mem _ hb)
    · rw [Bool.not_eq_true] at q
      rw [q] at h2
      simp only [h2, h4 q]
      rw [List.filter_cons_of_neg (by rw [q]; exact Bool.false_ne_true)]
      exact compL_map enc c y xs acc (by omega) fun b hb => h b (List.mem_cons_of_mem _ hb)
/-- .. all of them -/
theorem compL_all {α : Type} {vs : List Nat} {t : Tg} {m : Ex} {e0 : Env} {S : Sto} (enc : α → D) (y : α → D) (xs : List α) (acc : List D) (hz : acc.length + xs.length ≤ 16777216)
    (h : ∀ a ∈ xs, ∃ e1 e3, t.asg (enc a) e0 = some e1 ∧ m e1 S = .ok (y a) e3 S ∧ wipeE e3 vs = e0) : compL vs t bTT (turn1 m) (xs.map enc) acc e0 S = .ok (acc ++ xs.map y) e0 S := by
  rw [compL_map enc (fun _ => true) y xs acc hz fun a ha => ?_]
  · rw [List.filter_eq_self.mpr fun _ _ => rfl]
  · obtain ⟨e1, e3, h1, h2, h3⟩ := h a ha
    exact ⟨e1, e1, e3, h1, rfl, fun _ => ⟨h2, h3⟩, fun z => by cases z⟩

/-! ### slices, indices -/
theorem cut_mid {α : Type} (xs : List α) (a k : Nat) : cutL xs (some (a : Int)) (some (k : Int)) = (xs.take k).drop a := by
  unfold cutL
  rw [HT.sIx_nat, HT.sIx_nat, List.drop_take]
  by_cases h1 : a ≤ xs.length
  · rw [Nat.min_eq_left h1]
    by_cases h2 : k ≤ xs.length
    · rw [Nat.min_eq_left h2]
    · rw [Nat.min_eq_right (by omega), List.take_of_length_le (by rw [List.length_drop]; omega), List.take_of_length_le (by rw [List.length_drop]; omega)]
  · rw [Nat.min_eq_right (by omega : xs.length ≤ a), List.drop_of_length_le (by omega), List.drop_of_length_le (by omega)]
    simp
theorem sl_mid_t (ds : List D) (a k : Nat) : fSl11 [.tup ds, .int (a : Nat), .int (k : Nat)] = some (.tup ((ds.take k).drop a)) := by
  show some (D.tup (cutL ds (some (a : Int)) (some (k : Int)))) = _
  rw [cut_mid]
theorem sl_mid_l (ds : List D) (a k : Nat) : fSl11 [.lst ds, .int (a : Nat), .int (k : Nat)] = some (.lst ((ds.take k).drop a)) := by
  show some (D.lst (cutL ds (some (a : Int)) (some (k : Int)))) = _
  rw [cut_mid]
theorem ixN_last {n : Nat} (h : 0 < n) : ixN n (-1) = some (n - 1) := by
  unfold ixN
  rw [if_neg (by omega), if_pos (by omega)]
  congr 1
  omega
theorem atI_last {α : Type} (xs : List α) : atI xs (-1) = xs.getLast? := by
  cases xs with
  | nil => rfl
  | cons a l =>
    unfold atI
    rw [ixN_last (by simp), List.getLast?_eq_getElem?]
    rfl
theorem fIx_last (ds : List D) : fIx [.lst ds, .int (-1)] = ds.getLast? := atI_last ds
end TM
namespace TM
open PySem PySem.Spec L2
open PyProof.Rows hiding St

/-! ### texts and numbers -/
def fIntC : PF
  | [.int i] => some (.int i)
  | [.bl k] => some (.int (if k then 1 else 0))
  | [.str a] => if a.length ≤ 640 then (PySem.intText? a).map .int else none
  | _ => none
def rIntC : List V → Hp → VK → Prop := fun xs H Q => ((∃ i, xs = [.int i] ∧ Q (.int i) H) ∨ ∃ k, xs = [.bl k] ∧ Q (.int (if k then 1 else 0)) H) ∨ ∃ a n, xs = [.str a] ∧ PySem.intText? a = some n ∧ a.length ≤ 640 ∧ Q (.int n) H
theorem call_intC {X : Cx} : CallR X (.type "int") rIntC := callr_or call_int1 call_int_str
theorem ok_intC {G : Gb} : PrimOk G rIntC fIntC := by
  intro rho F H vs ds d Q s hr hf q
  unfold fIntC at hf
  split at hf
  · cases hf
    obtain ⟨v, rfl, h1⟩ := repBL1 hr
    cases repB_int h1
    exact .inl (.inl ⟨_, rfl, q _ H F (Grow.refl s) (.int _)⟩)
  · cases hf
    obtain ⟨v, rfl, h1⟩ := repBL1 hr
    cases repB_bl h1
    exact .inl (.inr ⟨_, rfl, q _ H F (Grow.refl s) (.int _)⟩)
  · split at hf
    · rename_i hz
      obtain ⟨v, rfl, h1⟩ := repBL1 hr
      cases repB_str h1
      obtain ⟨n, hn, rfl⟩ := Option.map_eq_some_iff.mp hf
      exact .inr ⟨_, n, rfl, hn, hz, q _ H F (Grow.refl s) (.int _)⟩
    · cases hf
  · cases hf
def fStrC : PF
  | [.int i] => if i.natAbs.log2 < 1920 then some (.str (toString i)) else none
  | [.str a] => some (.str a)
  | _ => none
def rStrC : List V → Hp → VK → Prop := fun xs H Q => (∃ i, xs = [.int i] ∧ i.natAbs.log2 < 1920 ∧ Q (.str (toString i)) H) ∨ ∃ a, xs = [.str a] ∧ Q (.str a) H
theorem call_strC {X : Cx} : CallR X (.type "str") rStrC := callr_or call_str_int SkE.call_str_str
theorem ok_strC {G : Gb} : PrimOk G rStrC fStrC := by
  intro rho F H vs ds d Q s hr hf q
  unfold fStrC at hf
  split at hf
  · split at hf
    · rename_i hz
      cases hf
      obtain ⟨v, rfl, h1⟩ := repBL1 hr
      cases repB_int h1
      exact .inl ⟨_, rfl, hz, q _ H F (Grow.refl s) (.str _)⟩
    · cases hf
  · cases hf
    obtain ⟨v, rfl, h1⟩ := repBL1 hr
    cases repB_str h1
    exact .inr ⟨_, rfl, q _ H F (Grow.refl s) (.str _)⟩
  · cases hf
/-- methods' readings, the text first -/
def rM (r : V → List V → Hp → VK → Prop) : List V → Hp → VK → Prop := fun vs H Q => match vs with | v :: vs => r v vs H Q | [] => False
def fSplit : PF
  | [.str a, .str b] => if (b.length == 0) = false ∧ a.length + 2 ≤ sizeLine ∧ (Txt.split a b).length ≤ sizeLine then some (.lst ((Txt.split a b).map .str)) else none
  | _ => none
theorem repL_strs {G : Gb} {rho : List Addr} {F : Hp} (ys : List Str) : RepL G rho F (ys.map V.str) (ys.map D.str) := RepL.of_map V.str D.str (fun a => .str a) ys
theorem fr_split {G : Gb} : PrimFr G (fun vs H Q => match vs with | v :: vs => (∃ a b, v = .str a ∧ vs = [.str b] ∧ (b.length == 0) = false ∧ a.length + 2 ≤ sizeLine ∧ rNewStrs (Txt.split a b) H Q) | [] => False) fSplit := by
  intro rho F H vs ds d Q s hr hf q
  unfold fSplit at hf
  split at hf
  · split at hf
    · rename_i hz
      cases hf
      obtain ⟨v, w, rfl, h1, h2⟩ := repBL2 hr
      cases repB_str h1; cases repB_str h2
      exact ⟨_, _, rfl, rfl, hz.1, hz.2.1, fun p hp => q p _ H F (Grow.refl s) hp (by rw [List.length_map]; exact hz.2.2) (repL_strs _)⟩
    · cases hf
  · cases hf
def fEndsw : PF
  | [.str a, .str b] => some (.bl (Txt.endswith a b))
  | _ => none
theorem ok_endsw {G : Gb} : PrimOk G (fun vs H Q => match vs with | v :: vs => (∃ a b, v = .str a ∧ vs = [.str b] ∧ Q (.bl (Txt.endswith a b)) H) | [] => False) fEndsw := by
  intro rho F H vs ds d Q s hr hf q
  unfold fEndsw at hf
  split at hf
  · cases hf
    obtain ⟨v, w, rfl, h1, h2⟩ := repBL2 hr
    cases repB_str h1; cases repB_str h2
    exact ⟨_, _, rfl, rfl, q _ H F (Grow.refl s) (.bl _)⟩
  · cases hf
def fSindex : PF
  | [.str a, .str b] => match Builtin.Str.occurrences a b 0 a.length 1 with
    | i :: _ => some (.int (i : Nat))
    | [] => none
  | _ => none
theorem ok_sindex {G : Gb} : PrimOk G (fun vs H Q => match vs with | v :: vs => (∃ a b i rest, v = .str a ∧ vs = [.str b] ∧ Builtin.Str.occurrences a b 0 a.length 1 = i :: rest ∧ Q (.int (i : Nat)) H) | [] => False) fSindex := by
  intro rho F H vs ds d Q s hr hf q
  unfold fSindex at hf
  split at hf
  · split at hf
    · rename_i i r e
      cases hf
      obtain ⟨v, w, rfl, h1, h2⟩ := repBL2 hr
      cases repB_str h1; cases repB_str h2
      exact ⟨_, _, _, _, rfl, rfl, e, q _ H F (Grow.refl s) (.int _)⟩
    · cases hf
  · cases hf

/-! ### chained comparisons -/
def D.plain : D → Bool
  | .int _ => true
  | .str _ => true
  | .non => true
  | .bl _ => true
  | _ => false
def bChain (f g : PF) (a b c : Opr) : Ex := fun e S => (evR [a, b] e S).bind fun ds e S => match ds with
  | [x, y] => match f [x, y] with
    | some (.bl true) => if y.plain = true then (evR [c] e S).bind fun zs e S => match zs with
        | [z] => match g [y, z] with
          | some (.bl k) => .ok (.bl k) e S
          | _ => .stuck
        | _ => .stuck
      else .stuck
    | some (.bl false) => .ok (.bl false) e S
    | _ => .stuck
  | _ => .stuck
theorem repB_plain {G : Gb} {rho rho' : List Addr} {F H F' H' : Hp} {v : V} {d : D} (h : RepB G rho F H v d) (p : d.plain = true) : RepB G rho' F' H' v d := by
  cases d with
  | int i => cases repB_int h; exact .inl (.int _)
  | str i => cases repB_str h; exact .inl (.str _)
  | non => cases repB_non h; exact .inl .non
  | bl i => cases repB_bl h; exact .inl (.bl _)
  | _ => cases p
section
variable {X : Cx} {W : WX} {ent : Ent} {a b c : Expr} {oa ob oc : Opr} {op op' : CmpOp} {pos : Pos} {r r' : R2} {f g : PF}
theorem chain_core {σ : St} {H : Hp} {Q : VK} (hf : PrimOk X.gb (rL2 r) f) (hg : PrimOk X.gb (rL2 r') g) (h : rdE X.gb W ent (bChain f g oa ob oc) σ H Q) :
    tOs X.gb W ent [oa, ob] σ H (fun vs H2 => match vs with | [x, y] => r x y H2 (fun z H3 => ∃ k, z = .bl k ∧ (if k = true then tOs X.gb W ent [oc] σ H3 (fun ws H4 => match ws with | [w] => r' y w H4 (fun v H5 => (∃ k, v = .bl k) ∧ Q v H5) | _ => False) else Q (.bl false) H3)) | _ => False) := by
  obtain ⟨e, S, F, rho, hR, hp⟩ := h
  refine tOs_R hR ?_
  unfold bChain at hp
  cases q : evR [oa, ob] e S with
  | ok ds e1 S1 =>
    rw [q] at hp
    intro vs H' F' rho' hR' s p hr
    rw [bind_ok] at hp
    split at hp
    · rename_i x y
      obtain ⟨v, w, rfl, h1, h2⟩ := repBL2 hr
      show r v w H' _
      split at hp
      · rename_i hx
        split at hp
        · rename_i hy
          refine hf hR'.sub hr hx fun z H3 F3 gr hz => ?_
          cases hz
          refine ⟨true, rfl, ?_⟩
          rw [if_pos rfl]
          have hR3 := hR'.grow gr
          refine tOs_R hR3 ?_
          cases q2 : evR [oc] e1 S1 with
          | ok zs e2 S2 =>
            rw [q2, bind_ok] at hp
            intro us H4 F4 rho4 hR4 s4 p4 hr4
            split at hp
            · rename_i z
              obtain ⟨u, rfl, h4⟩ := repBL1 hr4
              show r' w u H4 _
              split at hp
              · rename_i k hk
                refine hg hR4.sub (.cons (repB_plain h2 hy) (.cons h4 .nil)) hk fun v5 H5 F5 g5 h5 => ?_
                cases h5
                exact ⟨⟨k, rfl⟩, hp _ H5 F5 rho4 (hR4.grow g5) (s.trans ((gr.sub hR'.sub).trans (s4.trans (g5.sub hR4.sub)))) (p.trans p4) (.bl _)⟩
              · exact hp.elim
            · exact hp.elim
          | exc x e2 S2 => rw [q2] at hp; exact postX.mono (s.trans (gr.sub hR'.sub)) p hp
          | stuck => rw [q2] at hp; exact hp.elim
        · exact hp.elim
      · rename_i hx
        refine hf hR'.sub hr hx fun z H3 F3 gr hz => ?_
        cases hz
        refine ⟨false, rfl, ?_⟩
        rw [if_neg Bool.false_ne_true]
        exact hp _ H3 F3 rho' (hR'.grow gr) (s.trans (gr.sub hR'.sub)) p (.bl _)
      · exact hp.elim
    · exact hp.elim
  | exc x e1 S1 => rw [q] at hp; exact hp
  | stuck => rw [q] at hp; exact hp
theorem R2.imp {op : CmpOp} {r : R2} (ho : OpR X (compareOp op) r) : OpR X (compareOp op) (fun x y H Q => r x y H (fun v H5 => (∃ k, v = .bl k) ∧ Q v H5)) := fun pins s σ H x y v u Q I rx ry q =>
  wpAny_mono (ho pins s σ H x y v u _ I rx ry q) (fun _ _ ⟨z, H1, I1, r1, q1⟩ => ⟨z, H1, I1, r1, q1.2⟩) fun _ _ z => z
theorem chain_read {σ : St} {H : Hp} {Q : VK} (h : tOs X.gb W ent [oa, ob] σ H (fun vs H2 => match vs with | [x, y] => r x y H2 (fun z H3 => ∃ k, z = .bl k ∧ (if k = true then tOs X.gb W ent [oc] σ H3 (fun ws H4 => match ws with | [w] => r' y w H4 (fun v H5 => (∃ k, v = .bl k) ∧ Q v H5) | _ => False) else Q (.bl false) H3)) | _ => False)) :
    tChain r (fun x y H Q => r' x y H (fun v H5 => (∃ k, v = .bl k) ∧ Q v H5)) (tO X.gb W ent oa) (tO X.gb W ent ob) (tO X.gb W ent oc) σ H Q := h
theorem sem_chain (ho : OpR X (compareOp op) r) (ho' : OpR X (compareOp op') r') (hf : PrimOk X.gb (rL2 r) f) (hg : PrimOk X.gb (rL2 r') g) (ha : OpE X W ent a oa) (hb : OpE X W ent b ob) (hc : OpE X W ent c oc)
    (hm : lastMarks [op, op'] [b, c] = false := by with_unfolding_all rfl) : PE X (.Compare a [op, op'] [b, c] pos) (rdE X.gb W ent (bChain f g oa ob oc)) :=
  (pe_chain ho (R2.imp ho') ha hb hc hm).weak fun σ H Q h => chain_read (chain_core hf hg h)
theorem bChain_bl {e e1 : Env} {S S1 : Sto} {d : D} (h : bChain f g oa ob oc e S = .ok d e1 S1) : ∃ k, d = .bl k := by
  unfold bChain at h
  cases q : evR [oa, ob] e S with
  | ok ds e2 S2 =>
    rw [q, bind_ok] at h
    split at h
    · split at h
      · split at h
        · cases q2 : evR [oc] e2 S2 with
          | ok zs e3 S3 =>
            rw [q2, bind_ok] at h
            split at h
            · split at h
              · cases h; exact ⟨_, rfl⟩
              · cases h
            · cases h
          | exc x e3 S3 => rw [q2] at h; cases h
          | stuck => rw [q2] at h; cases h
        · cases h
      · cases h; exact ⟨_, rfl⟩
      · cases h
    · cases h
  | exc x e2 S2 => rw [q] at h; cases h
  | stuck => rw [q] at h; cases h
theorem semT_chain (ho : OpR X (compareOp op) r) (ho' : OpR X (compareOp op') r') (hf : PrimOk X.gb (rL2 r) f) (hg : PrimOk X.gb (rL2 r') g) (ha : OpE X W ent a oa) (hb : OpE X W ent b ob) (hc : OpE X W ent c oc)
    (hm : lastMarks [op, op'] [b, c] = false := by with_unfolding_all rfl) : PT X (.Compare a [op, op'] [b, c] pos) (rdT X.gb W ent (tBool (bChain f g oa ob oc))) :=
  (pt_chain ho (R2.imp ho') ha hb hc hm).weak fun σ H Q ⟨e, S, F, rho, hR, hp⟩ => by
    refine chain_read (Q := fun x H' => ∃ k, x = .bl k ∧ Q k H') (chain_core hf hg ⟨e, S, F, rho, hR, ?_⟩)
    unfold tBool at hp
    cases q : bChain f g oa ob oc e S with
    | ok d e1 S1 =>
      rw [q] at hp
      obtain ⟨k, rfl⟩ := bChain_bl q
      intro v H' F' rho' r s p hk
      cases hk
      exact ⟨k, rfl, hp H' F' rho' r s p⟩
    | exc x e1 S1 => rw [q] at hp; exact hp
    | stuck => rw [q] at hp; exact hp
end
end TM
namespace TM
open PySem PySem.Spec L2
open PyProof.Rows hiding St

/-! ### defs with defaults -/
section
variable {P : Program} {w : World} {K : PySem.W.Frag} {mg : Str → Option Value} {base : Heap} {k : Nat}
theorem fnG_funD {x qual : Str} {st : Stmt} {f : Addr} {fd : FuncData} {N ps : List Str} {m : Sm} {dvs : List V} {kws : List (Str × V)} (F : FunD K x qual (defArgs st) (defBody st) (defScope st) dvs kws f fd) (S : FnScope N ps (defScope st))
    (hb : ∀ (X : Cx) (W : WX) (ent : Ent), Dx ⟨P, w, K, mg, base⟩ N (defScope st) k X W → PSs X (defBody st) (rdS X.gb W ent m)) : FnG P w K mg base (k + 1) f fd ps (spD ⟨K, mg⟩ ps.length (fsem N.length m)) := by
  obtain ⟨oc, od, dV, kV, doc, pm, an, cdv, ct, osl, rfl, lk, hcd, _, _⟩ := F.ex
  exact fnG_of lk hcd S fun X W ent h1 h2 h3 h4 h5 h6 h7 g t => hb X W ent (Dx.mk' h6 h7 g t h1 h2 h3 h4 h5)
/-- keyword-only defaults alone -/
theorem fnAt_k {x qual : Str} {st : Stmt} {f : Addr} {fd : FuncData} {N ps : List Str} {m : Sm} {kws : List (Str × V)} {dfl : List D} {shapes : List (Nat × List Str × List Src)}
    (F : FunD K x qual (defArgs st) (defBody st) (defScope st) [] kws f fd) (g : mg x = some (.ref f)) (S : FnScope N ps (defScope st)) (hk : kws ≠ []) (hd : ∀ rho F, RepL ⟨K, mg⟩ rho F (kws.map (·.2)) dfl)
    (hsh : ∀ sh ∈ shapes, sh.2.2.length = ps.length ∧ ∀ (D : Addr) (doc pm : Value) (an : Option Addr) (cdv ct : Value) (us mv ws : List Value), us.length = sh.1 → mv.length = kws.length → ws.length = sh.2.1.length →
      ∃ l, l.Sublist ((kws.map (·.1)).zip mv) ∧ KwChain D l (bindArgs (PySem.W.fnOf x qual (defArgs st) (defBody st) (defScope st) .none (.ref D) doc pm an cdv ct) ⟨us, sh.2.1.zip ws⟩) (ps.zip (fill .none us ws mv sh.2.2)))
    (hb : ∀ (X : Cx) (W : WX) (ent : Ent), Dx ⟨P, w, K, mg, base⟩ N (defScope st) k X W → PSs X (defBody st) (rdS X.gb W ent m)) : FnAt P w K mg base (k + 1) x ⟨ps, fsem N.length m, dfl, shapes⟩ := by
  have G := fnG_funD F S hb
  obtain ⟨oc, od, dV, kV, doc, pm, an, cdv, ct, osl, rfl, lk, hcd, hD, hK⟩ := F.ex
  rcases hD with ⟨_, rfl⟩ | ⟨e, _⟩
  · rcases hK with e | ⟨D, rfl, hq⟩
    · exact absurd e hk
    · obtain ⟨mv, hl, rk, hks⟩ := kwd_vals hq
      refine ⟨f, _, kws.map (·.2), mv, g, F.kp, G, rk, hd, fun sh hs => ?_⟩
      obtain ⟨h1, h2⟩ := hsh sh hs
      refine ⟨h1, fun s us ws X l1 l2 => ?_⟩
      obtain ⟨l, k1, k2⟩ := h2 D doc pm an cdv ct us mv ws l1 hl l2
      exact BindsTo.of_looks fun M => KwChain.looks X (fun q hq => hks q (k1.subset hq)) k2
  · exact absurd rfl e
/-- defaults of parameters by place alone -/
theorem fnAt_d {x qual : Str} {st : Stmt} {f : Addr} {fd : FuncData} {N ps : List Str} {m : Sm} {dvs : List V} {dfl : List D} {shapes : List (Nat × List Str × List Src)}
    (F : FunD K x qual (defArgs st) (defBody st) (defScope st) dvs [] f fd) (g : mg x = some (.ref f)) (S : FnScope N ps (defScope st)) (hk : dvs ≠ []) (hd : ∀ rho F, RepL ⟨K, mg⟩ rho F dvs dfl)
    (hsh : ∀ sh ∈ shapes, sh.2.2.length = ps.length ∧ ∀ (T : Addr) (kV doc pm : Value) (an : Option Addr) (cdv ct : Value) (us its ws : List Value), us.length = sh.1 → its.length = dvs.length → ws.length = sh.2.1.length →
      ∃ k, bindArgs (PySem.W.fnOf x qual (defArgs st) (defBody st) (defScope st) (.ref T) kV doc pm an cdv ct) ⟨us, sh.2.1.zip ws⟩ = seqItems? (.ref T) >>= k ∧ k (some its.toArray) = pure (ps.zip (fill .none us ws its sh.2.2)))
    (hb : ∀ (X : Cx) (W : WX) (ent : Ent), Dx ⟨P, w, K, mg, base⟩ N (defScope st) k X W → PSs X (defBody st) (rdS X.gb W ent m)) : FnAt P w K mg base (k + 1) x ⟨ps, fsem N.length m, dfl, shapes⟩ := by
  have G := fnG_funD F S hb
  obtain ⟨oc, od, dV, kV, doc, pm, an, cdv, ct, osl, rfl, lk, hcd, hD, hK⟩ := F.ex
  rcases hD with ⟨e, _⟩ | ⟨_, T, o, its, n, rfl, lT, oT, rT⟩
  · exact absurd e hk
  · refine ⟨f, _, dvs, its, g, F.kp, G, rT, hd, fun sh hs => ?_⟩
    obtain ⟨h1, h2⟩ := hsh sh hs
    refine ⟨h1, fun s us ws X l1 l2 => ?_⟩
    obtain ⟨k, k1, k2⟩ := h2 T kV doc pm an cdv ct us its ws l1 rT.length.symm l2
    refine BindsTo.of_looks fun M => ?_
    rw [k1]
    exact looks_items X lT oT (.of_pure k2)
/-- both -/
theorem fnAt_dk {x qual : Str} {st : Stmt} {f : Addr} {fd : FuncData} {N ps : List Str} {m : Sm} {dvs : List V} {kws : List (Str × V)} {dfl : List D} {shapes : List (Nat × List Str × List Src)}
    (F : FunD K x qual (defArgs st) (defBody st) (defScope st) dvs kws f fd) (g : mg x = some (.ref f)) (S : FnScope N ps (defScope st)) (hk0 : dvs ≠ []) (hk : kws ≠ []) (hd : ∀ rho F, RepL ⟨K, mg⟩ rho F (dvs ++ kws.map (·.2)) dfl)
    (hsh : ∀ sh ∈ shapes, sh.2.2.length = ps.length ∧ ∀ (T D : Addr) (doc pm : Value) (an : Option Addr) (cdv ct : Value) (us its mv ws : List Value), us.length = sh.1 → its.length = dvs.length → mv.length = kws.length → ws.length = sh.2.1.length →
      ∃ k l, l.Sublist ((kws.map (·.1)).zip mv) ∧ bindArgs (PySem.W.fnOf x qual (defArgs st) (defBody st) (defScope st) (.ref T) (.ref D) doc pm an cdv ct) ⟨us, sh.2.1.zip ws⟩ = seqItems? (.ref T) >>= k ∧ KwChain D l (k (some its.toArray)) (ps.zip (fill .none us ws (its ++ mv) sh.2.2)))
    (hb : ∀ (X : Cx) (W : WX) (ent : Ent), Dx ⟨P, w, K, mg, base⟩ N (defScope st) k X W → PSs X (defBody st) (rdS X.gb W ent m)) : FnAt P w K mg base (k + 1) x ⟨ps, fsem N.length m, dfl, shapes⟩ := by
  have G := fnG_funD F S hb
  obtain ⟨oc, od, dV, kV, doc, pm, an, cdv, ct, osl, rfl, lk, hcd, hD, hK⟩ := F.ex
  rcases hD with ⟨e, _⟩ | ⟨_, T, o, its, n, rfl, lT, oT, rT⟩
  · exact absurd e hk0
  · rcases hK with e | ⟨D, rfl, hq⟩
    · exact absurd e hk
    · obtain ⟨mv, hl, rk, hks⟩ := kwd_vals hq
      refine ⟨f, _, dvs ++ kws.map (·.2), its ++ mv, g, F.kp, G, rT.append rk, hd, fun sh hs => ?_⟩
      obtain ⟨h1, h2⟩ := hsh sh hs
      refine ⟨h1, fun s us ws X l1 l2 => ?_⟩
      obtain ⟨k, l, k0, k1, k2⟩ := h2 T D doc pm an cdv ct us its mv ws l1 rT.length.symm hl l2
      refine BindsTo.of_looks fun M => ?_
      rw [k1]
      exact looks_items X lT oT (KwChain.looks X (fun q hq => hks q (k0.subset hq)) k2)
/-- a def without defaults, called by names too -/
theorem fnAt_n {x qual : Str} {st : Stmt} {f : Addr} {fd : FuncData} {N ps : List Str} {m : Sm} {shapes : List (Nat × List Str × List Src)} (F : L2.Fun K x qual st f fd) (g : mg x = some (.ref f)) (S : FnScope N ps (defScope st))
    (hsh : ∀ sh ∈ shapes, sh.2.2.length = ps.length ∧ ∀ (kV doc pm : Value) (an : Option Addr) (cdv ct : Value) (us ws : List Value), us.length = sh.1 → ws.length = sh.2.1.length →
      bindArgs (PySem.W.fnOf x qual (defArgs st) (defBody st) (defScope st) .none kV doc pm an cdv ct) ⟨us, sh.2.1.zip ws⟩ = pure (ps.zip (fill .none us ws [] sh.2.2)))
    (hb : ∀ (X : Cx) (W : WX) (ent : Ent), Dx ⟨P, w, K, mg, base⟩ N (defScope st) k X W → PSs X (defBody st) (rdS X.gb W ent m)) : FnAt P w K mg base (k + 1) x ⟨ps, fsem N.length m, [], shapes⟩ := by
  refine ⟨f, fd, [], [], g, F.kp, fnG_fun F S hb, .nil, fun _ _ => .nil, fun sh hs => ?_⟩
  obtain ⟨h1, h2⟩ := hsh sh hs
  refine ⟨h1, fun s us ws _ hu hw => ?_⟩
  obtain ⟨oc, od, kV, doc, pm, an, cdv, ct, osl, rfl, lk, hcd⟩ := F.ex
  exact .of_eq (h2 kV doc pm an cdv ct us ws hu hw)
/-- such a def as the head leaves it -/
theorem funD_mk {x qual : Str} {params : Arguments} {body : List Stmt} {scope : Scope} {dvs : List V} {kws : List (Str × V)} {f : Addr} {oc dV kV doc pm cdv ct : Value} {od an : Option Addr} {osl : Array (Option Value)}
    (lk : K.lookup f = some ⟨oc, od, .func (PySem.W.fnOf x qual params body scope dV kV doc pm an cdv ct), osl⟩) (hcd : PySem.W.codeIn K cdv qual = true) (kp : PySem.W.keepIn K (.ref f) = true) (hD : DflV K dV dvs) (hK : KwdV K kV kws) :
    FunD K x qual params body scope dvs kws f (PySem.W.fnOf x qual params body scope dV kV doc pm an cdv ct) := ⟨⟨oc, od, dV, kV, doc, pm, an, cdv, ct, osl, rfl, lk, hcd, hD, hK⟩, kp⟩
theorem dfl_mk {dvs : List V} {T : Addr} {o : Obj} {its : List Value} {n : Nat} (hk : dvs ≠ []) (lT : K.lookup T = some o) (oT : o.data = .seq its.toArray n) (h : Vals dvs its) : DflV K (.ref T) dvs := .inr ⟨hk, T, o, its, n, rfl, lT, oT, h⟩
end
end TM
namespace TM
open PySem PySem.Spec L2
open PyProof.Rows hiding St
/-! ### a new dict, empty -/
def wDct0 : Wx := fun e S => .ok (.ownd []) e S
theorem semW_dct0 {X : Cx} {W : WX} {ent : Ent} {pos : Pos} : PE X (.Dict [] [] pos) (rdW X.gb W ent wDct0) := pe_dnewK.weak fun σ H Q ⟨e, S, F, rho, hR, hp⟩ => by
  intro p hpn
  refine hp (.ref p) _ F rho (hR.lay hpn) (Sub.refl _) (Pre.refl _) ?_
  refine ⟨p, rfl, ⟨[], upd_same, rfl, .nil⟩, ?_, hR.fresh hpn, fun m => (hR.rhoSome m).1 hpn, fun i t h ht q => ?_⟩
  · cases q : F p with
    | none => rfl
    | some o => rw [hR.sub p o q] at hpn; cases hpn
  · obtain ⟨a, h1, h2, _⟩ := hR.own i t h ht
    rw [h1] at q; cases q
    exact h2.isob hpn
end TM
namespace TM
open PySem PySem.Spec L2
open PyProof.Rows hiding St

/-! ### what an except clause tests -/
def TestOk (X : Cx) (t : Expr) (m : Value → Option Bool) : Prop :=
  ∀ (cls : Value) (b : Bool) (a : Addr) (oe : Obj) (pn : List (Addr × Obj)) (σ : L2.St) (H : Hp) (s : Shared) (Q : Bool → Shared → Prop) (E : Value → Shared → Prop), m cls = some b → Inv (X.suite a ((a, oe) :: pn)) [] σ H s →
    PySem.W.Looks (model X.prog X.w) s.heap (typeOf (.ref a)) cls → (∀ h', (∀ q o, s.heap.get? q = some o → h'.get? q = some o) → Q b { s with heap := h' }) →
    wpAny (model X.prog X.w) (X.A.mark (some (.ref a))) (eval t X.env) (fun c s1 => wpAny (model X.prog X.w) (X.A.mark (some (.ref a))) (excMatches (.ref a) c) Q E s1) E s
section
variable {X : Cx}
theorem ld_cls {x : Str} {c : Value} {a : Addr} {oe : Obj} {pn : List (Addr × Obj)} {σ : L2.St} {H : Hp} {s : Shared} {np : Pos} {Q : Value → Shared → Prop} {E : Value → Shared → Prop} (hc : Names X x c) (I : Inv (X.suite a ((a, oe) :: pn)) [] σ H s) (q : Q c s) :
    wpAny (model X.prog X.w) (X.A.mark (some (.ref a))) (eval (.Name x np) X.env) Q E s := by
  obtain ⟨hg, hdbg, hm | ⟨hm, hv, hnn⟩⟩ := hc
  · exact ld_glob (X := X.suite a ((a, oe) :: pn)) I hg hm q hdbg
  · exact ld_blt (X := X.suite a ((a, oe) :: pn)) I hg hm hv q hnn hdbg
theorem test_1 {x : Str} {c : Value} {np : Pos} (hc : Names X x c) : TestOk X (.Name x np) (fun cls => PySem.W.exmOne X.K cls c) := fun cls b a oe pn σ H s Q E hb I LT q =>
  ld_cls hc I ((PySem.W.exm_one I.kIn LT hb).here (q s.heap fun _ _ z => z))
theorem test_2 {x1 x2 : Str} {c1 c2 : Value} {p1 p2 tpos : Pos} {kk : Nat} (n1 : Names X x1 c1) (n2 : Names X x2 c2) : TestOk X (.Tuple [.Name x1 p1, .Name x2 p2] kk tpos) (fun cls => PySem.W.exmAny X.K cls [c1, c2]) := fun cls b a oe pn σ H s Q E hb I LT q => by
  refine wpAny_Tuple ?_
  refine wpAny_items_cons (ld_cls n1 I ?_)
  refine wpAny_items_cons (ld_cls n2 I ?_)
  refine wpAny_items_nil ⟨by size_fits, ?_⟩
  have kp : ∀ q o, s.heap.get? q = some o → (s.heap.push { cls := .type "tuple", data := .seq [c1, c2].toArray }).get? q = some o := fun _ _ z => Heap.get?_push_of_some _ z
  exact (PySem.W.exm_tup2 (I.kIn.keeps kp) (LT.keeps kp) (Heap.get?_push_size s.heap rfl) hb).here (q _ kp)
theorem test_3 {x1 x2 x3 : Str} {c1 c2 c3 : Value} {p1 p2 p3 tpos : Pos} {kk : Nat} (n1 : Names X x1 c1) (n2 : Names X x2 c2) (n3 : Names X x3 c3) : TestOk X (.Tuple [.Name x1 p1, .Name x2 p2, .Name x3 p3] kk tpos) (fun cls => PySem.W.exmAny X.K cls [c1, c2, c3]) := fun cls b a oe pn σ H s Q E hb I LT q => by
  refine wpAny_Tuple ?_
  refine wpAny_items_cons (ld_cls n1 I ?_)
  refine wpAny_items_cons (ld_cls n2 I ?_)
  refine wpAny_items_cons (ld_cls n3 I ?_)
  refine wpAny_items_nil ⟨by size_fits, ?_⟩
  have kp : ∀ q o, s.heap.get? q = some o → (s.heap.push { cls := .type "tuple", data := .seq [c1, c2, c3].toArray }).get? q = some o := fun _ _ z => Heap.get?_push_of_some _ z
  exact (PySem.W.exm_tup3 (I.kIn.keeps kp) (LT.keeps kp) (Heap.get?_push_size s.heap rfl) hb).here (q _ kp)
end

/-! ### the exception that is caught comes into the ledger -/
theorem flying_keep {B h h' : Heap} {l : List PySem.Env} {e : Addr} {Z : Obj → Prop} (fl : HandSPX.FlyingZ B l e Z h) (k : ∀ b o, h.get? b = some o → h'.get? b = some o) : HandSPX.FlyingZ B l e Z h' := by
  obtain ⟨h1, h2, h3, oe, vs, T, oT, ts, q1, q2, q3, q4, q5, q6, q7, q8, q9⟩ := fl
  exact ⟨fun b o z => k b o (h1 b o z), h2, h3.of_keeps fun b o z _ => ⟨o, k b o z, rfl⟩, oe, vs, T, oT, ts, k _ _ q1, q2, q3, q4, q5, q6, k _ _ q7, q8, q9⟩
theorem exAt_ok {P : Program} {w : World} {H : Hp} {h : Heap} {a : Addr} {cls : Value} {d : Option Addr} {oe : Obj} {vs : Array Value} (e : h.get? a = some oe) (z : Zc cls d oe) (dd : oe.data = .fields vs) : ObjOk P w H h a (ExAt cls d a) :=
  ⟨⟨oe, vs, e, z, dd⟩, ⟨oe, e⟩, fun _ _ ⟨o, v, q, r⟩ k => ⟨o, v, k o q, r⟩⟩
section
variable {X : Cx} {pins : List (Addr × Obj)} {σ : L2.St} {H : Hp} {s sI s' : Shared} {B : Heap}
theorem Inv.suiteK (I : Inv X pins σ H s) (a : Addr) : Inv (X.suite a (X.pn ++ pins)) [] σ H s :=
  ⟨I.ok.suite _ _, I.os, I.bare, I.base, I.loc, I.cell, I.free, I.freeC, fun p hp => I.pin p (by rw [List.append_nil] at hp; exact hp), I.hok, I.len⟩
theorem Inv.unsuiteK {a : Addr} {pn' : List (Addr × Obj)} (I : Inv (X.suite a (X.pn ++ pins)) pn' σ H s) (ok : X.Ok) : Inv X pins σ H s :=
  ⟨ok, I.os, I.bare, I.base, I.loc, I.cell, I.free, I.freeC, fun p hp => I.pin p (List.mem_append_left _ hp), I.hok, I.len⟩
/-- the state behind the catch, with the exception tracked -/
theorem Inv.landedK {a : Addr} {h4 : Heap} {oe : Obj} {vs : Array Value} {cls : Value} {d : Option Addr} (J : Inv X pins σ H sI) (nb : ∀ b o, sI.heap.get? b = some o → b ∉ frs X.stack → B.get? b = some o) (st : B.StaysIn h4) (up : sI.heap.UpToSlots h4) (os : s'.os = sI.os) (ag : AllBare s'.gens)
    (hB : B.get? a = none) (nf : a ∉ frs X.stack) (na : H a = none) (he : h4.get? a = some oe) (hz : Zc cls d oe) (hd : oe.data = .fields vs) : Inv X pins σ (upd H a (ExAt cls d a)) { s' with heap := h4 } := by
  have nI : sI.heap.get? a = none := by
    cases q : sI.heap.get? a with
    | none => rfl
    | some o =>
      have z := nb a o q nf
      rw [hB] at z; cases z
  obtain ⟨G, g1, g2⟩ := restrict h4 fun b => decide (b ≠ a)
  have gk : ∀ b, b ≠ a → G.get? b = h4.get? b := fun b hb => g1 b (decide_eq_true hb)
  have ge : G.get? a = none := g2 a (by simp)
  have JG : Inv X pins σ H { s' with heap := G } := J.landed (s' := { s' with heap := G }) nb
    (fun b o z => by
      have nba : b ≠ a := fun e => by rw [e, hB] at z; cases z
      rw [gk b nba]; exact st b o z)
    (fun b o z hv => by
      have nba : b ≠ a := fun e => by rw [e, nI] at z; cases z
      obtain ⟨sl, q⟩ := up b o z hv
      exact ⟨sl, by rw [gk b nba]; exact q⟩) os ag
  exact JG.laidN (h' := h4) (a := a) (o := ExAt cls d a) (t' := s'.toks) (fun b u z => by
    have nba : b ≠ a := fun e => by
      rw [e] at z
      have z : G.get? a = some u := z
      rw [ge] at z; cases z
    have z : G.get? b = some u := z
    rw [gk b nba] at z; exact z) ge na (exAt_ok he hz hd)
end

/-! ### try: the exception that is caught stays -/
structure Hdl where
  m : Value → Option Bool
  i : Option Nat
  ts : Addr → Value → Option Addr → TS
def goneE (i : Nat) (D : Ends) : Ends := { nx := fun σ' H' => D.nx (σ'.set i none) H', rt := D.rt, bk := fun σ' H' => D.bk (σ'.set i none) H', ct := fun σ' H' => D.ct (σ'.set i none) H' }
def wKeep (Wout : WX) (D : Ends) : List Hdl → WX
  | [] => Wout
  | h :: r => fun cls d σ H => ∃ b, h.m cls = some b ∧ (b = true → ∀ a, H a = none → match h.i with
      | some i => h.ts a cls d (goneE i D) (σ.set i (some (.ref a))) (upd H a (ExAt cls d a))
      | none => h.ts a cls d D σ (upd H a (ExAt cls d a))) ∧ (b = false → wKeep Wout D r cls d σ H)
inductive HdlsOk (X : Cx) : List ExceptHandler → List Hdl → Prop
  | nil : HdlsOk X [] []
  | one {t : Expr} {m : Value → Option Bool} {ts : Addr → Value → Option Addr → TS} {b₀ : Stmt} {suite : List Stmt} {pos' : Pos} {hds : List ExceptHandler} {l : List Hdl} (ht : TestOk X t m)
      (hsu : ∀ (a : Addr) (cls : Value) (d : Option Addr) (pn : List (Addr × Obj)), PSs (X.suite a pn) (b₀ :: suite) (ts a cls d)) (r : HdlsOk X hds l) : HdlsOk X (.ExceptHandler (some t) none (b₀ :: suite) pos' :: hds) (⟨m, none, ts⟩ :: l)
  | as {t : Expr} {m : Value → Option Bool} {i : Nat} {n : Str} {ts : Addr → Value → Option Addr → TS} {b₀ : Stmt} {suite : List Stmt} {pos' : Pos} {hds : List ExceptHandler} {l : List Hdl} (ht : TestOk X t m) (hN : X.N.Nodup) (hi : X.N[i]? = some n) (hl : X.env.kindOf n = some .local)
      (hsu : ∀ (a : Addr) (cls : Value) (d : Option Addr) (pn : List (Addr × Obj)), PSs (X.suite a pn) (b₀ :: suite) (ts a cls d)) (r : HdlsOk X hds l) : HdlsOk X (.ExceptHandler (some t) (some n) (b₀ :: suite) pos' :: hds) (⟨m, some i, ts⟩ :: l)
section
variable {X : Cx} {body : List Stmt} {h₀ : ExceptHandler} {hds : List ExceptHandler} {l : List Hdl} {pos : Pos} {tb : WX → TS} {Wout : WX}
theorem ps_try_keep (hs : X.stack = X.env :: X.outer) (hf : X.env.frame = some X.env.locals) (tk : Takes X Wout)
    (hb : ∀ (W : WX) (pn : List (Addr × Obj)) (xe : Value → Shared → Prop), Takes (X.tr pn xe) W → PassesOwn (model X.prog X.w) X.A X.env xe → PSs (X.tr pn xe) body (tb W))
    (hh : HdlsOk X (h₀ :: hds) l) : PS X (.Try body (h₀ :: hds) [] [] pos) (fun D σ H => tb (wKeep Wout D l) D σ H) := by
  refine ⟨fun pins s σ H D I h => ?_⟩
  have ok := I.ok
  have hfr : X.A.frames = some (X.env :: X.outer) := by rw [ok.frames, hs]
  refine wpAny_Try_except ?_
  refine wpAny_mono ((hb (wKeep Wout D l) (X.pn ++ pins) (fun e s₁ => wpAny (model X.prog X.w) X.A (noteFrame e X.env) (fun _ s₂ => wpAny (model X.prog X.w) X.A (setFlight e none) (fun _ s₃ =>
    wpAny (model X.prog X.w) X.A (handleBy e X.env (h₀ :: hds)) (SP X pins D) X.xe s₃) X.xe s₂) X.xe s₁) (fun u s' xx => ?_) PassesOwn.looking).run [] s σ H D (I.toTry _) h) (fun f s1 hsp => ?_) (fun e s1 he => he)
  · -- the catch
    obtain ⟨a, B, sI, pins', σ', H', cls, d, rfl, J', nb, up, sky, na, os, ag, w⟩ := xx
    have J : Inv X pins σ' H' sI := J'.ofTry ok
    have sky' : Sky B (X.env :: X.outer) a (Zc cls d) X.env.locals s'.heap := by rw [← hs]; exact sky
    show wpAny (model X.prog X.w) X.A (noteFrame (.ref a) X.env) _ _ _
    refine Sky.land Zc.steady hfr hf sky' fun h3 fl3 up3 => ?_
    have notFr : ∀ {h : Heap} {o : Obj} {vs : Array Value}, h.FunFrames B (X.env :: X.outer) → h.get? a = some o → o.data = .fields vs → a ∉ frs (X.env :: X.outer) := fun {h o vs} ff e dd hm => by
      obtain ⟨_, o', e', hnf⟩ := ff.mem hm
      rw [e] at e'; cases e'
      exact hnf _ dd
    obtain ⟨oe0, vs0, he0, hz0, hd0⟩ := fl3.there
    have nfr := notFr fl3.2.2.1 he0 hd0
    have hB : B.get? a = none := fl3.2.1
    have nL : a ≠ X.env.locals := fun z => nfr (List.mem_filterMap.mpr ⟨X.env, List.mem_cons_self, by rw [hf, z]⟩)
    have nF : a ∉ X.fs := fun hm => by
      obtain ⟨e, he, q⟩ := List.mem_filterMap.mp hm
      exact nfr (List.mem_filterMap.mpr ⟨e, List.mem_cons_of_mem _ he, q⟩)
    have go : ∀ {hds' : List ExceptHandler} {l' : List Hdl}, HdlsOk X hds' l' → ∀ (h3 : Heap), HandSPX.FlyingZ B (X.env :: X.outer) a (Zc cls d) h3 → s'.heap.UpToSlots h3 → wKeep Wout D l' cls d σ' H' →
        wpAny (model X.prog X.w) X.A (handleBy (.ref a) X.env hds') (SP X pins D) X.xe { s' with heap := h3 } := by
      intro hds' l' hk
      induction hk with
      | nil =>
        intro h3 fl3 up3 w
        refine wpAny_handleBy_nil ?_
        obtain ⟨k1, k2, k3, oe, vs, T, oT, ts', he, hz, hd, h1, hr⟩ := id fl3
        unfold PySem.passOn
        refine wpAny_bind (wpAny_field he hd h1 ?_)
        rw [if_neg (show ¬ ((Value.ref T == Value.none) = true) from by simp)]
        have fin : wpAny (model X.prog X.w) X.A (setFlight (.ref a) X.env.frame) (fun _ s4 => wpAny (model X.prog X.w) X.A (throw (.ref a) : Sem Flow) (SP X pins D) X.xe s4) X.xe { s' with heap := h3 } := by
          rw [hf]
          refine HandSPX.setFlight_upZ fl3 fun h4 hh4 up4 => wpAny_throw (tk _ _ ?_)
          exact ⟨a, B, sI, pins, σ', H', cls, d, rfl, J, nb, (up.trans up3).trans up4, .inr (.inr (by rw [hs]; exact hh4)), na, os, ag, w⟩
        first
          | exact wpAny_bind (wpAny_pure (wpAny_bind fin))
          | exact wpAny_bind fin
      | @one t m ts b₀ suite pos' hds2 l2 ht hsu r ih =>
        intro h3 fl3 up3 w
        obtain ⟨b, hb1, hyes, hno⟩ := w
        have J3 : Inv X pins σ' H' { s' with heap := h3 } := J.landed (s' := { s' with heap := h3 }) nb fl3.1 (up.trans up3) os ag
        obtain ⟨oe3, vs3, he3, hz3, hd3⟩ := fl3.there
        have S3 := J3.suite he3 hd3 na nL nF
        refine wpAny_handleBy_cons (codeAny_handlers_test ?_) (by intro q; cases q)
        have LT : PySem.W.Looks (model X.prog X.w) h3 (typeOf (.ref a)) cls := fun A Q E s k q => wpAny_typeOf_ref (k _ _ he3) (by rw [hz3.1]; exact q)
        refine ht cls b a oe3 (X.pn ++ pins) σ' H' { s' with heap := h3 } _ _ hb1 S3 LT fun h5 k5 => ?_
        have fl5 := flying_keep fl3 k5
        have up5 : s'.heap.UpToSlots h5 := up3.trans (Heap.UpToSlots.of_keeps k5)
        cases b with
        | true =>
          refine codeAny_handlers_suite ?_
          refine HandSPX.lands_againZ fl5 fun h4 fl4 up4 => ?_
          obtain ⟨oe4, vs4, he4, hz4, hd4⟩ := fl4.there
          have K4 : Inv X pins σ' (upd H' a (ExAt cls d a)) { s' with heap := h4 } := Inv.landedK (s' := s') J nb fl4.1 ((up.trans up5).trans up4) os ag hB (by rw [hs]; exact nfr) na he4 hz4 hd4
          refine wpAny_mono ((hsu a cls d (X.pn ++ pins)).run [] _ _ _ _ (Inv.suiteK K4 a) (hyes rfl a na)) (fun f s6 hsp => ?_) (fun _ _ z => False.elim z)
          cases f with
          | next =>
            obtain ⟨σ6, H6, S6, q6⟩ := hsp
            exact ⟨_, _, Inv.unsuiteK S6 ok, q6⟩
          | brk =>
            obtain ⟨σ6, H6, S6, q6⟩ := hsp
            exact ⟨_, _, Inv.unsuiteK S6 ok, q6⟩
          | cont =>
            obtain ⟨σ6, H6, S6, q6⟩ := hsp
            exact ⟨_, _, Inv.unsuiteK S6 ok, q6⟩
          | ret u =>
            obtain ⟨v6, σ6, H6, S6, r6, q6⟩ := hsp
            exact ⟨_, _, _, Inv.unsuiteK S6 ok, r6, q6⟩
        | false =>
          show wpAny _ X.A (handleBy (.ref a) X.env hds2) _ _ _
          exact ih h5 fl5 up5 (hno rfl)
      | @as t m i n ts b₀ suite pos' hds2 l2 ht hN hi hln hsu r ih =>
        intro h3 fl3 up3 w
        obtain ⟨b, hb1, hyes, hno⟩ := w
        have J3 : Inv X pins σ' H' { s' with heap := h3 } := J.landed (s' := { s' with heap := h3 }) nb fl3.1 (up.trans up3) os ag
        obtain ⟨oe3, vs3, he3, hz3, hd3⟩ := fl3.there
        have S3 := J3.suite he3 hd3 na nL nF
        refine wpAny_handleBy_cons (codeAny_handlers_test ?_) (by intro q; cases q)
        have LT : PySem.W.Looks (model X.prog X.w) h3 (typeOf (.ref a)) cls := fun A Q E s k q => wpAny_typeOf_ref (k _ _ he3) (by rw [hz3.1]; exact q)
        refine ht cls b a oe3 (X.pn ++ pins) σ' H' { s' with heap := h3 } _ _ hb1 S3 LT fun h5 k5 => ?_
        have fl5 := flying_keep fl3 k5
        have up5 : s'.heap.UpToSlots h5 := up3.trans (Heap.UpToSlots.of_keeps k5)
        cases b with
        | true =>
          refine codeAny_handlers_suite_as ?_
          refine HandSPX.lands_againZ fl5 fun h4 fl4 up4 => ?_
          obtain ⟨oe4, vs4, he4, hz4, hd4⟩ := fl4.there
          have K4 : Inv X pins σ' (upd H' a (ExAt cls d a)) { s' with heap := h4 } := Inv.landedK (s' := s') J nb fl4.1 ((up.trans up5).trans up4) os ag hB (by rw [hs]; exact nfr) na he4 hz4 hd4
          refine store_ok (X := X.suite a (X.pn ++ pins)) (v := .ref a) (Inv.suiteK K4 a) hN hi (.inl hln) rfl (fun s5 S5 => ?_) (.inr hln)
          refine wpAny_mono ((hsu a cls d (X.pn ++ pins)).run [] s5 _ _ _ S5 (hyes rfl a na)) (fun f s6 hsp => ?_) (fun _ _ z => False.elim z)
          have end_ : ∀ {σ6 : L2.St} {H6 : Hp} {Q : Shared → Prop}, Inv (X.suite a (X.pn ++ pins)) [] σ6 H6 s6 → (∀ s7, Inv X pins (σ6.set i none) H6 s7 → Q s7) →
              wpAny (model X.prog X.w) X.A (do bindName X.env n .none; unbindBehindTheSuite X.env n pos') (fun _ s7 => Q s7) X.xe s6 := fun {σ6 H6 Q} S6 hq => gone_ok (Inv.unsuiteK S6 ok) hN hi hln hq
          cases f with
          | next =>
            obtain ⟨σ6, H6, S6, q6⟩ := hsp
            exact end_ S6 fun s7 J7 => ⟨_, _, J7, q6⟩
          | brk =>
            obtain ⟨σ6, H6, S6, q6⟩ := hsp
            exact end_ S6 fun s7 J7 => ⟨_, _, J7, q6⟩
          | cont =>
            obtain ⟨σ6, H6, S6, q6⟩ := hsp
            exact end_ S6 fun s7 J7 => ⟨_, _, J7, q6⟩
          | ret u =>
            obtain ⟨v6, σ6, H6, S6, r6, q6⟩ := hsp
            exact end_ S6 fun s7 J7 => ⟨_, _, _, J7, r6, q6⟩
        | false =>
          show wpAny _ X.A (handleBy (.ref a) X.env hds2) _ _ _
          exact ih h5 fl5 up5 (hno rfl)
    exact go hh h3 fl3 up3 w
  · cases f with
    | next =>
      obtain ⟨σ', H', J', q⟩ := hsp
      exact wpAny_execs_nil ⟨σ', H', J'.ofTry ok, q⟩
    | brk =>
      obtain ⟨σ', H', J', q⟩ := hsp
      exact ⟨σ', H', J'.ofTry ok, q⟩
    | cont =>
      obtain ⟨σ', H', J', q⟩ := hsp
      exact ⟨σ', H', J'.ofTry ok, q⟩
    | ret u =>
      obtain ⟨v, σ', H', J', r, q⟩ := hsp
      exact ⟨v, σ', H', J'.ofTry ok, r, q⟩
end
end TM
namespace TM
open PySem PySem.Spec L2
open PyProof.Rows hiding St

/-! ### try: what it comes to, in data -/
structure Hs where
  tab : List (Str × Bool)
  i : Option Nat
  m : Sm
/-- behind the suite the name is gone -/
def dropO (i : Nat) : Out Fl → Out Fl
  | .ok (.ret w) e S => .ok (.ret w) e S
  | .ok .next e S => .ok .next (e.set i none) S
  | .ok .brk e S => .ok .brk (e.set i none) S
  | .ok .cont e S => .ok .cont (e.set i none) S
  | .exc _ _ _ => .stuck
  | .stuck => .stuck
def noX : Out Fl → Out Fl
  | .ok f e S => .ok f e S
  | .exc _ _ _ => .stuck
  | .stuck => .stuck
def hdlS : List Hs → D → Env → Sto → Out Fl
  | [], x, e, S => .exc x e S
  | h :: r, x, e, S => match x with
    | .exn c ns vs => match h.tab.lookup c with
      | none => .stuck
      | some false => hdlS r x e S
      | some true => match h.i with
        | none => noX (h.m e S)
        | some i => dropO i (h.m (e.set i (some (.val (.exn c ns vs)))) S)
    | _ => .stuck
def sTry (m : Sm) (hs : List Hs) : Sm := fun e S => match m e S with
  | .exc x e S => hdlS hs x e S
  | o => o

def W0x : WX := fun _ _ _ _ => False
/-- a table of classes tells what the test tells -/
def TabOk (G : Gb) (mm : Value → Option Bool) (tab : List (Str × Bool)) : Prop := ∀ (c : Str) (b : Bool), tab.lookup c = some b → ∃ C, G.mg c = some (.ref C) ∧ mm (.ref C) = some b
inductive HsOk (X : Cx) : List ExceptHandler → List Hs → Prop
  | nil : HsOk X [] []
  | one {t : Expr} {mm : Value → Option Bool} {tab : List (Str × Bool)} {m : Sm} {b₀ : Stmt} {suite : List Stmt} {pos' : Pos} {hds : List ExceptHandler} {l : List Hs} (ht : TestOk X t mm) (hb : TabOk X.gb mm tab)
      (hsu : ∀ (a : Addr) (pn : List (Addr × Obj)) (ent : Ent), PSs (X.suite a pn) (b₀ :: suite) (rdS X.gb W0x ent m)) (r : HsOk X hds l) : HsOk X (.ExceptHandler (some t) none (b₀ :: suite) pos' :: hds) (⟨tab, none, m⟩ :: l)
  | as {t : Expr} {mm : Value → Option Bool} {tab : List (Str × Bool)} {m : Sm} {i : Nat} {n : Str} {b₀ : Stmt} {suite : List Stmt} {pos' : Pos} {hds : List ExceptHandler} {l : List Hs} (ht : TestOk X t mm) (hb : TabOk X.gb mm tab) (hN : X.N.Nodup) (hi : X.N[i]? = some n) (hl : X.env.kindOf n = some .local)
      (hsu : ∀ (a : Addr) (pn : List (Addr × Obj)) (ent : Ent), PSs (X.suite a pn) (b₀ :: suite) (rdS X.gb W0x ent m)) (r : HsOk X hds l) : HsOk X (.ExceptHandler (some t) (some n) (b₀ :: suite) pos' :: hds) (⟨tab, some i, m⟩ :: l)
section
variable {G : Gb} {W : WX} {ent : Ent} {e : Env} {S : Sto} {σ : L2.St} {H F H' F' : Hp} {rho rho' : List Addr}
/-- a slot forgotten, in both -/
theorem R.dropB (r : R G ent e S σ H F rho) (i : Nat) : R G ent (e.set i none) S (σ.set i none) H F rho where
  len := by rw [List.length_set, List.length_set]; exact r.len
  sub := r.sub
  val := fun j d h => by
    rcases get_set h with ⟨_, q⟩ | ⟨ne, q⟩
    · cases q
    · rw [List.getElem?_set_ne ne]; exact r.val j d q
  own := fun j s h hs => by
    rcases get_set h with ⟨_, q⟩ | ⟨ne, q⟩
    · cases q
    · rw [List.getElem?_set_ne ne]; exact r.own j s q hs
  sep := fun j k s t a h1 v1 h2 v2 h3 h4 => by
    rcases get_set h1 with ⟨_, q⟩ | ⟨ne, q⟩
    · cases q
    · rcases get_set h2 with ⟨_, q2⟩ | ⟨ne2, q2⟩
      · cases q2
      · rw [List.getElem?_set_ne ne] at h3
        rw [List.getElem?_set_ne ne2] at h4
        exact r.sep j k s t a q v1 q2 v2 h3 h4
  slen := r.slen
  sto := r.sto
  nod := r.nod
  keep := r.keep
  sub0 := r.sub0
  pre0 := r.pre0
theorem exn_rep {C a : Addr} {c : Str} {ns : List Str} {vs : List D} {d : Option Addr} (hm : G.mg c = some (.ref C)) (hn : F a = none) (h : (d = none ∧ ns = [] ∧ vs = []) ∨ ∃ (da : Addr) (fs : List (Str × V)), d = some da ∧ F da = some (.xd fs) ∧ fs.map (·.1) = ns ∧ RepL G rho F (fs.map (·.2)) vs) :
    Rep G rho (upd F a (ExAt (.ref C) d a)) (.ref a) (.exn c ns vs) := by
  have sb : Sub F (upd F a (ExAt (.ref C) d a)) := fun b u hb => by
    rw [upd_ne (fun e => by subst e; rw [hn] at hb; cases hb)]; exact hb
  rcases h with ⟨rfl, rfl, rfl⟩ | ⟨da, fs, rfl, h1, h2, h3⟩
  · exact .exn0 hm upd_same
  · exact .exn hm upd_same (sb _ _ h1) h2 (h3.mono sb (Pre.refl _))
theorem postS.noX {D : Ends} (h : postS G W ent F rho D (noX o)) : postS G W0x ent F rho D o := by
  cases o with
  | ok f e S => exact h
  | exc x e S => exact h.elim
  | stuck => exact h
theorem postS.dropO {D : Ends} {i : Nat} (h : postS G W ent F rho D (dropO i o)) : postS G W0x ent F rho (goneE i D) o := by
  cases o with
  | ok f e S =>
    cases f with
    | next => exact fun σ H' F' rho' r s p => h (σ.set i none) H' F' rho' (r.dropB i) s p
    | brk => exact fun σ H' F' rho' r s p => h (σ.set i none) H' F' rho' (r.dropB i) s p
    | cont => exact fun σ H' F' rho' r s p => h (σ.set i none) H' F' rho' (r.dropB i) s p
    | ret w => exact fun σ H' F' rho' r s p => h σ H' F' rho' r s p
  | exc x e S => exact h.elim
  | stuck => exact h
end
section
variable {X : Cx} {body : List Stmt} {h₀ : ExceptHandler} {hds : List ExceptHandler} {hs : List Hs} {pos : Pos} {W : WX} {ent : Ent} {m : Sm}
theorem hs_of (hh : HsOk X hds hs) (W : WX) (ent : Ent) (Dn : Ends) : ∃ l : List Hdl, HdlsOk X hds l ∧ ∀ {F : Hp} {rho : List Addr} {x : D} {e : Env} {S : Sto}, postS X.gb W ent F rho Dn (hdlS hs x e S) → ∀ σ, postX X.gb (wKeep W Dn l) ent σ F rho x e S := by
  induction hh with
  | nil => exact ⟨[], .nil, fun h => h⟩
  | @one t mm tab m b₀ suite pos' hds l ht hb hsu r ih =>
    obtain ⟨l', k, w⟩ := ih
    refine ⟨⟨mm, none, fun _ _ _ => rdS X.gb W0x ent m⟩ :: l', .one ht (fun a _ _ pn => hsu a pn ent) k, fun {F rho x e S} h σ H' F' rho' cls d hR hs hp hx => ?_⟩
    cases x with
    | exn c ns vs =>
      obtain ⟨C, hC, rfl, hx'⟩ := id hx
      have h : postS X.gb W ent F rho Dn (match tab.lookup c with
        | none => .stuck
        | some false => hdlS l (.exn c ns vs) e S
        | some true => noX (m e S)) := by
          unfold hdlS at h; exact h
      cases q : tab.lookup c with
      | none => rw [q] at h; exact h.elim
      | some b =>
        rw [q] at h
        obtain ⟨C', hC', hmm⟩ := hb c b q
        rw [hC] at hC'; cases hC'
        refine ⟨b, hmm, fun hbt a na => ?_, fun hbf => ?_⟩
        · subst hbt
          have nF : F' a = none := by
            cases z : F' a with
            | none => rfl
            | some o => rw [hR.sub a o z] at na; cases na
          have g := Grow.alloc (o := ExAt (.ref C) d a) hR.sub na
          have R1 := hR.grow g
          exact ⟨e, S, _, rho', R1, postS.noX (postS.mono (hs.trans (g.sub hR.sub)) hp h)⟩
        · subst hbf
          exact w h σ H' F' rho' _ d hR hs hp hx
    | _ => exact hx.elim
  | @as t mm tab m i n b₀ suite pos' hds l ht hb hN hi hl hsu r ih =>
    obtain ⟨l', k, w⟩ := ih
    refine ⟨⟨mm, some i, fun _ _ _ => rdS X.gb W0x ent m⟩ :: l', .as ht hN hi hl (fun a _ _ pn => hsu a pn ent) k, fun {F rho x e S} h σ H' F' rho' cls d hR hs hp hx => ?_⟩
    cases x with
    | exn c ns vs =>
      obtain ⟨C, hC, rfl, hx'⟩ := id hx
      have h : postS X.gb W ent F rho Dn (match tab.lookup c with
        | none => .stuck
        | some false => hdlS l (.exn c ns vs) e S
        | some true => dropO i (m (e.set i (some (.val (.exn c ns vs)))) S)) := by
          unfold hdlS at h; exact h
      cases q : tab.lookup c with
      | none => rw [q] at h; exact h.elim
      | some b =>
        rw [q] at h
        obtain ⟨C', hC', hmm⟩ := hb c b q
        rw [hC] at hC'; cases hC'
        refine ⟨b, hmm, fun hbt a na => ?_, fun hbf => ?_⟩
        · subst hbt
          have nF : F' a = none := by
            cases z : F' a with
            | none => rfl
            | some o => rw [hR.sub a o z] at na; cases na
          have g := Grow.alloc (o := ExAt (.ref C) d a) hR.sub na
          have R1 := hR.grow g
          have R2 := R1.setW (v := .ref a) (s := .val (.exn c ns vs)) (exn_rep hC nF hx') i
          exact ⟨_, S, _, rho', R2, postS.dropO (postS.mono (hs.trans (g.sub hR.sub)) hp h)⟩
        · subst hbf
          exact w h σ H' F' rho' _ d hR hs hp hx
    | _ => exact hx.elim
theorem semS_try (hs' : X.stack = X.env :: X.outer) (hf : X.env.frame = some X.env.locals) (tk : Takes X W)
    (hb : ∀ (W : WX) (pn : List (Addr × Obj)) (xe : Value → Shared → Prop), Takes (X.tr pn xe) W → PassesOwn (model X.prog X.w) X.A X.env xe → PSs (X.tr pn xe) body (rdS X.gb W ent m))
    (hh : HsOk X (h₀ :: hds) hs) : PS X (.Try body (h₀ :: hds) [] [] pos) (rdS X.gb W ent (sTry m hs)) := by
  refine ⟨fun pins s σ H Dn I h => ?_⟩
  obtain ⟨l, hl, w⟩ := hs_of hh W ent Dn
  refine (ps_try_keep (tb := fun W => rdS X.gb W ent m) hs' hf tk hb hl).run pins s σ H Dn I ?_
  obtain ⟨e, S, F, rho, hR, hp⟩ := h
  refine ⟨e, S, F, rho, hR, ?_⟩
  unfold sTry at hp
  cases q : m e S with
  | ok f e1 S1 => rw [q] at hp; exact hp
  | exc x e1 S1 => rw [q] at hp; exact fun σ => w hp σ
  | stuck => rw [q] at hp; exact hp
end
/-! .. in a def's own block -/
section
variable {Z : En} {N : List Str} {sc : Scope} {k : Nat} {X : Cx} {W : WX} {ent : Ent}
theorem Dx.tr (c : Dx Z N sc k X W) {W' : WX} {pn : List (Addr × Obj)} {xe : Value → Shared → Prop} (t : Takes (X.tr pn xe) W') (po : PassesOwn (model X.prog X.w) X.A X.env xe) : Dx Z N sc k (X.tr pn xe) W' :=
  ⟨⟨⟨c.nd, c.calm, c.room, c.gua⟩, c.n, c.s, c.f, t, c.hP, c.hw, c.hK, c.hm, c.hb⟩, po, c.stk, c.fr⟩
theorem stry {body : List Stmt} {h₀ : ExceptHandler} {hds : List ExceptHandler} {hs : List Hs} {pos : Pos} {m : Sm} (c : Dx Z N sc k X W)
    (hb : ∀ {X : Cx} {W : WX}, Dx Z N sc k X W → PSs X body (rdS X.gb W ent m)) (hh : HsOk X (h₀ :: hds) hs) : PS X (.Try body (h₀ :: hds) [] [] pos) (rdS X.gb W ent (sTry m hs)) :=
  semS_try c.stk c.fr c.tk (fun W pn xe t po => hb (c.tr t po)) hh
/-- what an except suite may count on -/
structure Sx (Z : En) (N : List Str) (sc : Scope) (X : Cx) : Prop where
  nd : X.N.Nodup
  n : X.N = N
  s : X.env.scope = sc
  f : ∀ x, X.fn x = true
  hK : X.K = Z.K
  hm : X.mg = Z.mg
theorem Dx.sx (c : Dx Z N sc k X W) (a : Addr) (pn : List (Addr × Obj)) : Sx Z N sc (X.suite a pn) := ⟨c.nd, c.n, c.s, fun x => by show X.fn x = true; rw [c.f], c.hK, c.hm⟩
theorem zv {pos : Pos} (c : Sx Z N sc X) (i : Nat) {y : Str} (h : vOk N sc i y = true) : PE X (.Name y pos) (rdE X.gb W ent (bVar i)) := by
  unfold vOk at h; simp only [Bool.and_eq_true, decide_eq_true_eq] at h
  refine sem_var (pe_var (by rw [c.n]; exact h.1) (by unfold L2.Vis; rw [c.s]; exact isVis_of h.2.1) (by simpa using h.2.2.1) (by simpa using h.2.2.2))
theorem zset {value : Expr} {m : Wx} {y : Str} {pos pos' : Pos} (c : Sx Z N sc X) (i : Nat) (h : tOk N sc (fun _ => true) i y = true) (hx : PE X value (rdW X.gb W ent m)) (hs : swapsWith value (some (.Name y pos')) pos.line X.env = pure false := by rfl) :
    PS X (.Assign [.Name y pos'] value pos) (rdS X.gb W ent (sSet i m)) := by
  unfold tOk at h
  simp only [Bool.and_eq_true, decide_eq_true_eq] at h
  have h1 := h.1; have h2 := h.2.1
  exact semS_set hx c.nd (by rw [c.n]; exact h1) (by unfold L2.Loc; rw [c.s]; exact isLoc_of h2) (.inl (c.f y)) hs
theorem kind_of (c : Dx Z N sc k X W) {i : Nat} {y : Str} (h : lOk N sc i y = true) : X.N[i]? = some y ∧ X.env.kindOf y = some .local := by
  unfold lOk at h
  simp only [Bool.and_eq_true, decide_eq_true_eq] at h
  exact ⟨by rw [c.n]; exact h.1, by
    show X.env.scope.names.lookup y = _
    rw [c.s]; exact isL_of h.2⟩
end
end TM
namespace TM
open PySem PySem.Spec L2
open PyProof.Rows hiding St

/-! ### raise X -/
section
variable {prog : Program} {w : World} {A : Around} {E : Value → Shared → Prop} {s : Shared} {K : PySem.W.Frag} {C : Addr}
theorem selfC_nested {Q : Fin → Shared → Prop} (X : K.In s.heap) (sf : PySem.W.kitCls K (.ref C) (.ref C) = some true) (h : Q (.done (.ret (.bool true))) s) :
    wpAny (model prog w) A (Builtin.«issubclass.nested» ⟨[.ref C, .ref C, rawInt 0], []⟩) Q E s := by
  obtain ⟨hh, g, dr, t, os⟩ := s
  dsimp only at X
  obtain ⟨L1, L2, L3⟩ := PySem.W.kit_cls (M := model prog w) X sf
  unfold Builtin.«issubclass.nested»
  repeat (first | exact h | exact wpAny_pure h | lk)
theorem selfC_run {Q : Value → Shared → Prop} (X : K.In s.heap) (sf : PySem.W.kitCls K (.ref C) (.ref C) = some true) (h : Q (.bool true) s) :
    wpAny (model prog w) A (call (.builtin "issubclass") [.ref C, .ref C]) Q E s :=
  call_issubclass (S := fun _ R s => K.In s.heap ∧ R (.ok (.ret (.bool true))) s) (fun _ _ _ _ _ hs => issubclass_outer (selfC_nested hs.1 sf hs.2)) ⟨X, h⟩
end
theorem self_of {K : PySem.W.Frag} {C : Addr} (h : PySem.W.exmOne K (.ref C) (.ref C) = some true) : PySem.W.kitCls K (.ref C) (.ref C) = some true ∧ PySem.W.subIn K (.ref C) (.type "BaseException") = some true := by
  unfold PySem.W.exmOne at h
  split at h
  · rename_i q
    exact ⟨h, beq_iff_eq.mp q⟩
  · cases h
theorem raises_self {X : Cx} {C : Addr} (h : PySem.W.exmOne X.K (.ref C) (.ref C) = some true) : Raises X (.ref C) := fun M _ k => by
  obtain ⟨h1, h2⟩ := self_of h
  exact ⟨PySem.W.looks_subIn k h2, (PySem.W.kit_cls (M := M) k h1).1⟩
theorem ps_raiseC {X : Cx} {W : WX} {x : Str} {C : Addr} {bmB : List Value} {B newId initId : String} {np pos : Pos} (hc : X.calm = true) (tk : Takes X W) (F : ExcBaseFacts B newId initId bmB) (q : PySem.W.excIn X.K C bmB newId = true) (gC : X.mg x = some (.ref C))
    (self : PySem.W.exmOne X.K (.ref C) (.ref C) = some true) (hg : Gl X x) (hdb : (x == ("__debug__" : Str)) = false) : PS X (.Raise (some (.Name x np)) none pos) (fun _ σ H => W (.ref C) none σ H) := by
  refine ⟨fun pins s σ H D I h => ?_⟩
  have hh := I.ok.hd hc
  obtain ⟨kc, ks⟩ := self_of self
  show wpAny _ _ (do standAt pos; raiseStmt X.env (some (do let v ← eval (.Name x np) X.env; standAt pos; pure v)) none) _ _ _
  refine wpAny_bind (wpAny_standAt ?_)
  unfold raiseStmt
  dsimp only
  refine wpAny_bind (wpAny_bind (ld_glob I hg gC (wpAny_bind (wpAny_standAt (wpAny_pure ?_))) hdb))
  refine wpAny_bind (wpAny_pure ?_)
  dsimp only
  refine wpAny_bind (wpAny_holding ?_)
  obtain ⟨L1, L2', L3⟩ := PySem.W.kit_cls (M := model X.prog X.w) I.kIn kc
  have LB : PySem.W.Looks (model X.prog X.w) s.heap (isSubtype (.ref C) (.type "BaseException")) true := PySem.W.looks_subIn I.kIn ks
  unfold excFromValue isExcClass
  refine wpAny_bind (wpAny_bind (L2'.here ?_))
  simp only [if_true]
  refine LB.here ?_
  simp only [if_true]
  obtain ⟨bm, N, nm, qn, bs, hdct, sn, sub, ab, col, dd, k0, k1, k2, k3, k5, mN, hC, hN, hni, T⟩ := exc_obj I.kIn q
  have gone : ∀ a, s.heap.get? a = none → H a = none := fun a e => I.hok.gone e
  obtain ⟨hp, g, d, t, os⟩ := s
  refine wpAny_bind (wpAny_call_exc_subT F T hC hN hni (rest := []) (fun h' e hm => ?_) (by show 0 ≤ sizeLine; exact Nat.zero_le _))
  obtain ⟨a, oe, vs, sI, H', cls, dx, ea, J, k, hne, ha, hz, hd, h1, na, eos, ag, r, qq⟩ := mk_of (Q := fun cls d H' => cls = .ref C ∧ d = none ∧ H' = H) I hm (raises_self self) ⟨rfl, rfl, rfl⟩ (gone _ hm.new)
  cases ea
  obtain ⟨rfl, rfl, rfl⟩ := qq
  have k' : ∀ b o, hp.get? b = some o → h'.get? b = some o := hm.keeps
  have LT : PySem.W.Looks (model X.prog X.w) h' (typeOf (.ref e)) (.ref C) := fun A Q E s k q => wpAny_typeOf_ref (k _ _ ha) (by rw [hz.1]; exact q)
  have LI : PySem.W.Looks (model X.prog X.w) h' (isInstance (.ref e) (.type "BaseException")) true := LT.andThen (LB.keeps k')
  refine wpAny_bind (LI.here ?_)
  simp only [Bool.not_true, Bool.false_eq_true, if_false]
  refine wpAny_pure ?_
  refine wpAny_bind ((L2'.keeps k').here ?_)
  simp only [if_true]
  refine wpAny_bind (wpAny_holding ?_)
  unfold raisedFor
  simp only [Bool.false_eq_true, if_false]
  refine wpAny_bind (LT.here ?_)
  refine wpAny_bind (selfC_run (I.kIn.keeps k') kc ?_)
  refine wpAny_bind (wpAny_truthy_bool ?_)
  simp only [if_true]
  refine wpAny_pure ?_
  unfold setFlight raiseNew
  refine wpAny_bind (wpAny_bind (wpAny_field (i := 1) (x := Value.none) ha hd h1 ?_))
  rw [if_neg (by decide)]
  refine wpAny_pure (wpAny_bind (wpAny_handled ?_))
  rw [hh]
  have fin := tk _ _ (XE.new (W := W) J k hne ha hz hd h1 na eos ag h)
  first
    | exact wpAny_throw fin
    | exact wpAny_bind (wpAny_pure (wpAny_throw fin))
end TM
namespace TM
open PySem PySem.Spec L2
open PyProof.Rows hiding St

/-! ### raise X, in data -/
/-- an exception class of the program, without __init__ of its own -/
structure ExK (Z : En) (x : Str) : Prop where
  ex : ∃ (C : Addr) (bmB : List Value) (B newId initId : String), Z.mg x = some (.ref C) ∧ ExcBaseFacts B newId initId bmB ∧ PySem.W.excIn Z.K C bmB newId = true ∧ PySem.W.exmOne Z.K (.ref C) (.ref C) = some true
def sRaise (c : Str) : Sm := fun e S => .exc (.exn c [] []) e S
section
variable {Z : En} {N : List Str} {sc : Scope} {fs : Str → Bool} {k : Nat} {X : Cx} {W : WX} {ent : Ent}
theorem sraise {x : Str} {np pos : Pos} (c : Bx Z N sc fs k X W) (hg : gOk sc x = true) (f : ExK Z x) : PS X (.Raise (some (.Name x np)) none pos) (rdS X.gb W ent (sRaise x)) := by
  obtain ⟨C, bmB, B, newId, initId, gC, F, q, sf⟩ := f.ex
  refine (ps_raiseC c.calm c.tk F (by rw [c.hK]; exact q) (by rw [c.hm]; exact gC) (by rw [c.hK]; exact sf) (Gl.of c hg) (gOk_debug hg)).weak fun Dn σ H ⟨e, S, F', rho, hR, hp⟩ => ?_
  exact hp σ H F' rho (.ref C) none hR (Sub.refl _) (Pre.refl _) ⟨C, by show X.mg x = _; rw [c.hm]; exact gC, rfl, .inl ⟨rfl, rfl, rfl⟩⟩

/-! ### what an except clause names -/
/-- the class of a name -/
def ClsN (Z : En) (x : Str) (u : Value) : Prop := Z.mg x = some u ∨ (Z.mg x = none ∧ bootBuiltins x = some u ∧ x ≠ "__name__")
/-- a table: which classes of exceptions the classes us take -/
structure TabK (Z : En) (xs : List Str) (tab : List (Str × Bool)) : Prop where
  ex : ∃ us : List Value, Paired (ClsN Z) xs us ∧ ∀ p ∈ tab, ∃ C, Z.mg p.1 = some (.ref C) ∧ PySem.W.exmAny Z.K (.ref C) us = some p.2
theorem exm_any1 {K : PySem.W.Frag} {c u : Value} {b : Bool} (h : PySem.W.exmAny K c [u] = some b) : PySem.W.exmOne K c u = some b := by
  obtain ⟨b1, d1, h1, h2, h3⟩ := PySem.W.exmAny_cons h
  cases h2
  rw [h1, h3, Bool.or_false]
theorem mem_of_lookup : ∀ {l : List (Str × Bool)} {c : Str} {b : Bool}, l.lookup c = some b → (c, b) ∈ l
  | [], _, _, h => by cases h
  | (d, v) :: l, c, b, h => by
    rw [List.lookup_cons] at h
    split at h
    · rename_i e
      cases h
      have e : c = d := by simpa using e
      subst e
      exact List.mem_cons_self
    · exact List.mem_cons_of_mem _ (mem_of_lookup h)
theorem names_of {x : Str} {u : Value} (c : Bx Z N sc fs k X W) (hg : gOk sc x = true) (h : ClsN Z x u) : Names X x u := by
  refine ⟨Gl.of c hg, gOk_debug hg, ?_⟩
  rw [c.hm]
  exact h
/-- the clause's test, one class -/
theorem tst1 {x : Str} {np : Pos} {tab : List (Str × Bool)} (c : Bx Z N sc fs k X W) (hg : gOk sc x = true) (T : TabK Z [x] tab) : ∃ mm, TestOk X (.Name x np) mm ∧ TabOk X.gb mm tab := by
  obtain ⟨us, hp, ht⟩ := T.ex
  cases hp with
  | cons h1 r => cases r with | nil => exact ⟨_, test_1 (names_of c hg h1), fun cc b hl => by
      obtain ⟨C, g, q⟩ := ht _ (mem_of_lookup hl)
      exact ⟨C, by show X.mg cc = _; rw [c.hm]; exact g, by rw [c.hK]; exact exm_any1 q⟩⟩
theorem tst2 {x y : Str} {p1 p2 tpos : Pos} {kk : Nat} {tab : List (Str × Bool)} (c : Bx Z N sc fs k X W) (hg : (gOk sc x && gOk sc y) = true) (T : TabK Z [x, y] tab) : ∃ mm, TestOk X (.Tuple [.Name x p1, .Name y p2] kk tpos) mm ∧ TabOk X.gb mm tab := by
  obtain ⟨us, hp, ht⟩ := T.ex
  rw [Bool.and_eq_true] at hg
  cases hp with
  | cons h1 r => cases r with | cons h2 r => cases r with | nil => exact ⟨_, test_2 (names_of c hg.1 h1) (names_of c hg.2 h2), fun cc b hl => by
      obtain ⟨C, g, q⟩ := ht _ (mem_of_lookup hl)
      exact ⟨C, by show X.mg cc = _; rw [c.hm]; exact g, by rw [c.hK]; exact q⟩⟩
theorem tst3 {x y z : Str} {p1 p2 p3 tpos : Pos} {kk : Nat} {tab : List (Str × Bool)} (c : Bx Z N sc fs k X W) (hg : (gOk sc x && (gOk sc y && gOk sc z)) = true) (T : TabK Z [x, y, z] tab) : ∃ mm, TestOk X (.Tuple [.Name x p1, .Name y p2, .Name z p3] kk tpos) mm ∧ TabOk X.gb mm tab := by
  obtain ⟨us, hp, ht⟩ := T.ex
  rw [Bool.and_eq_true, Bool.and_eq_true] at hg
  cases hp with
  | cons h1 r => cases r with | cons h2 r => cases r with | cons h3 r => cases r with | nil => exact ⟨_, test_3 (names_of c hg.1 h1) (names_of c hg.2.1 h2) (names_of c hg.2.2 h3), fun cc b hl => by
      obtain ⟨C, g, q⟩ := ht _ (mem_of_lookup hl)
      exact ⟨C, by show X.mg cc = _; rw [c.hm]; exact g, by rw [c.hK]; exact q⟩⟩
theorem hnil : HsOk X [] [] := .nil
theorem hone {t : Expr} {tab : List (Str × Bool)} {m : Sm} {b₀ : Stmt} {suite : List Stmt} {pos' : Pos} {hds : List ExceptHandler} {l : List Hs} (c : Dx Z N sc k X W) (ht : ∃ mm, TestOk X t mm ∧ TabOk X.gb mm tab)
    (hsu : ∀ {Y : Cx} {ent : Ent}, Sx Z N sc Y → PSs Y (b₀ :: suite) (rdS Y.gb W0x ent m)) (r : HsOk X hds l) : HsOk X (.ExceptHandler (some t) none (b₀ :: suite) pos' :: hds) (⟨tab, none, m⟩ :: l) := by
  obtain ⟨mm, h1, h2⟩ := ht
  exact .one h1 h2 (fun a pn ent => hsu (c.sx a pn)) r
theorem has {t : Expr} {tab : List (Str × Bool)} {m : Sm} {i : Nat} {n : Str} {b₀ : Stmt} {suite : List Stmt} {pos' : Pos} {hds : List ExceptHandler} {l : List Hs} (c : Dx Z N sc k X W) (ht : ∃ mm, TestOk X t mm ∧ TabOk X.gb mm tab) (hn : lOk N sc i n = true)
    (hsu : ∀ {Y : Cx} {ent : Ent}, Sx Z N sc Y → PSs Y (b₀ :: suite) (rdS Y.gb W0x ent m)) (r : HsOk X hds l) : HsOk X (.ExceptHandler (some t) (some n) (b₀ :: suite) pos' :: hds) (⟨tab, some i, m⟩ :: l) := by
  obtain ⟨mm, h1, h2⟩ := ht
  obtain ⟨q1, q2⟩ := kind_of c hn
  exact .as h1 h2 c.nd q1 q2 (fun a pn ent => hsu (c.sx a pn)) r
end

/-! ### isinstance of an exception -/
/-- what the written part tells of a class of exceptions -/
structure ExI (K : PySem.W.Frag) (C : Addr) : Prop where
  self : PySem.W.exmOne K (.ref C) (.ref C) = some true
  ga : PySem.W.findIn K (.ref C) "__getattribute__" = some (some (.builtin "BaseException.__getattribute__"))
  gt : ∃ g, PySem.W.findIn K (.ref C) "__getattr__" = some g
  ca : PySem.W.findIn K (.ref C) "__class__" = some (some (.builtin "object.__class__"))
  cn : PySem.W.specialIn K (.builtin "object.__class__") "__get__" = some (some (.builtin "getset_descriptor.__get__"))
  tk : PySem.W.takesIn K (.builtin "object.__class__") = some true
  m : PySem.W.mroIn K C (.type "object") = some true
theorem ExI.sub {K : PySem.W.Frag} {C : Addr} (x : ExI K C) : PySem.W.subIn K (.ref C) (.type "BaseException") = some true := (self_of x.self).2
theorem ExI.cl {K : PySem.W.Frag} {C : Addr} (x : ExI K C) : (PySem.W.clsIn K C).isSome = true := by
  have h := (self_of x.self).1
  unfold PySem.W.kitCls at h
  split at h
  · split at h
    · rename_i e z
      cases e
      rw [Bool.and_eq_true] at z
      exact z.1
    · cases h
  · rename_i e; cases e
  · rename_i e1 e2; exact absurd rfl (e1 _)
theorem kit_of_exm {K : PySem.W.Frag} {t : Value} (sf : PySem.W.exmOne K t t = some true) : ∀ {us : List Value} {b : Bool}, PySem.W.exmAny K t us = some b → PySem.W.kitAny K t us = some b
  | [], b, h => h
  | c :: r, b, h => by
    obtain ⟨b1, d1, h1, h2, h3⟩ := PySem.W.exmAny_cons h
    have ih := kit_of_exm sf h2
    have k1 : PySem.W.kitOne K t c = some b1 := by
      unfold PySem.W.kitOne
      split
      · rename_i e
        have e : t = c := by simpa using e
        subst e
        rw [sf] at h1; exact h1
      · unfold PySem.W.exmOne at h1
        split at h1
        · exact h1
        · cases h1
    unfold PySem.W.kitAny
    rw [k1]
    cases b1 with
    | true => simp [h3]
    | false => simpa [h3] using ih
section
variable {X : Cx} {pins : List (Addr × Obj)} {σ : L2.St} {H : Hp} {s : Shared}
theorem kit_exn {a C : Addr} {d : Option Addr} (I : Inv X pins σ H s) (h : H a = some (ExAt (.ref C) d a)) (hd : ∀ da, d = some da → ∃ fs, H da = some (.xd fs)) (x : ExI X.K C) : ∃ P : Heap → Prop, PySem.W.KitX X.K (.ref a) (.ref C) P ∧ P s.heap := by
  obtain ⟨g, hg⟩ := x.gt
  have ok : ObjOk X.prog X.w H s.heap a (ExAt (.ref C) d a) := I.hok a _ h
  obtain ⟨oe, vs, e1, ⟨z1, z2⟩, e3⟩ := (show ∃ (oe : Obj) (vs : Array Value), s.heap.get? a = some oe ∧ Zc (.ref C) d oe ∧ oe.data = .fields vs from ok.1)
  obtain ⟨cls, dict, data, sl⟩ := oe
  dsimp only at z1 z2 e3
  subst z1 z2 e3
  cases dict with
  | none => exact ⟨_, PySem.W.kitx_exc (ox := { cls := .ref C, dict := none, data := .fields vs, slots := sl }) (od := none) x.cl x.ga hg x.sub x.ca x.cn x.tk x.m, ⟨e1, rfl, rfl, trivial⟩⟩
  | some da =>
    obtain ⟨fs, hf⟩ := hd da rfl
    obtain ⟨od, hod⟩ := objOk_get (I.hok da _ hf)
    exact ⟨_, PySem.W.kitx_exc (ox := { cls := .ref C, dict := some da, data := .fields vs, slots := sl }) (od := some od) x.cl x.ga hg x.sub x.ca x.cn x.tk x.m, ⟨e1, rfl, rfl, hod⟩⟩
def ExV (K : PySem.W.Frag) (H : Hp) (v : V) (C : Addr) : Prop := ∃ (a : Addr) (d : Option Addr), v = .ref a ∧ H a = some (ExAt (.ref C) d a) ∧ (∀ da, d = some da → ∃ fs, H da = some (.xd fs)) ∧ ExI K C
def rIsx (K : PySem.W.Frag) : List V → Hp → VK → Prop := fun xs H Q => ∃ (v c : V) (C : Addr) (b : Bool), xs = [v, c] ∧ ExV K H v C ∧ Q (.bl b) H ∧
  ((∃ u, ClsV c u ∧ PySem.W.kitOne K (.ref C) u = some b) ∨ ∃ (tp : Addr) (cs : List V) (us : List Value), c = .ref tp ∧ H tp = some (.tup cs) ∧ Paired ClsV cs us ∧ PySem.W.kitAny K (.ref C) us = some b)
theorem call_isx : CallR X (.builtin "isinstance") (rIsx X.K) := by
  intro pins s σ H xs us Q I r h
  obtain ⟨v, c, C, b, rfl, ⟨a, d, rfl, ha, hd, x⟩, q, hk⟩ := h
  obtain ⟨u1, u2, rfl, r1, r2⟩ := vals2 r
  cases (show u1 = Value.ref a from r1)
  obtain ⟨P, Zx, p⟩ := kit_exn I ha hd x
  rcases hk with ⟨u, k, e⟩ | ⟨tp, cs, ws, rfl, hT, k, e⟩
  · have e2 := k.eq r2
    subst e2
    exact PySem.W.kia_one Zx I.kIn p e (fun z => nomatch z) fun tk => ⟨.bl b, H, I.tok tk, rfl, q⟩
  · cases (show u2 = Value.ref tp from r2)
    obtain ⟨_, its, rv, o, h1, h2, n, h3⟩ := (show ObjOk X.prog X.w H s.heap tp (.tup cs) from I.hok tp _ hT)
    have e3 := ClsV.all k rv
    subst e3
    obtain ⟨oc, od, dt, sl⟩ := o
    simp only at h2 h3
    subst h2 h3
    exact PySem.W.kia_tup Zx I.kIn p h1 e (fun z => nomatch z) fun tk => ⟨.bl b, H, I.tok tk, rfl, q⟩
end
/-- a table: which classes of exceptions are instances -/
structure TabI (Z : En) (xs : List Str) (tab : List (Str × Bool)) : Prop where
  ex : ∃ us : List Value, Paired (ClsN Z) xs us ∧ (∀ u ∈ us, ∃ v, ClsV v u ∧ RelV v u) ∧ ∀ p ∈ tab, ∃ C, Z.mg p.1 = some (.ref C) ∧ ExI Z.K C ∧ PySem.W.exmAny Z.K (.ref C) us = some p.2
def fIsx (tab : List (Str × Bool)) : PF
  | [.exn c _ _] => (tab.lookup c).map .bl
  | _ => none
theorem kit_any1 {K : PySem.W.Frag} {t u : Value} {b : Bool} (h : PySem.W.kitAny K t [u] = some b) : PySem.W.kitOne K t u = some b := by
  unfold PySem.W.kitAny at h
  split at h
  · rename_i q; cases h; exact q
  · rename_i q
    unfold PySem.W.kitAny at h; cases h; exact q
  · cases h
section
variable {Z : En} {N : List Str} {sc : Scope} {fs : Str → Bool} {k : Nat} {X : Cx} {W : WX} {ent : Ent}
/-- the classes as a value -/
def tClsX (us : List Value) : TE := fun σ H Q => ∀ v H', ((∃ u, us = [u] ∧ ClsV v u ∧ H' = H) ∨ ∃ (tp : Addr) (cs : List V), v = .ref tp ∧ H tp = none ∧ H' = upd H tp (.tup cs) ∧ Paired ClsV cs us) → Q v H'
theorem pe_cls {x : Str} {u : Value} {np : Pos} (c : Bx Z N sc fs k X W) (hg : gOk sc x = true) (h : ClsN Z x u) (hv : ∃ v, ClsV v u ∧ RelV v u) : ∃ v, ClsV v u ∧ PE X (.Name x np) (tC v) := by
  obtain ⟨v, h1, h2⟩ := hv
  refine ⟨v, h1, ?_⟩
  rcases h with h | ⟨h, hb, hn⟩
  · exact pe_glob (Gl.of c hg) (by rw [c.hm]; exact h) h2 (gOk_debug hg)
  · exact pe_bltn (Gl.of c hg) (by rw [c.hm]; exact h) hb h2 hn (gOk_debug hg)
/-- names of classes, one behind the other -/
inductive ClsEs (sc : Scope) : List Expr → List Str → Prop
  | nil : ClsEs sc [] []
  | cons {x : Str} {np : Pos} {es : List Expr} {xs : List Str} (hg : gOk sc x = true) (r : ClsEs sc es xs) : ClsEs sc (.Name x np :: es) (x :: xs)
theorem pa_clss (c : Bx Z N sc fs k X W) : ∀ {es : List Expr} {xs : List Str} {us : List Value}, ClsEs sc es xs → Paired (ClsN Z) xs us → (∀ u ∈ us, ∃ v, ClsV v u ∧ RelV v u) →
    PA X es (fun σ H Q => ∀ cs, Paired ClsV cs us → Q cs H)
  | _, _, _, .nil, .nil, _ => pa_nil.weak fun σ H Q q => q [] .nil
  | _, _, _, .cons (x := x) (np := np) hg r, .cons (b := u) h t, hv => by
    obtain ⟨v, h1, h2⟩ := pe_cls (np := np) c hg h (hv _ List.mem_cons_self)
    refine (pa_cons h2 (pa_clss c r t fun u hu => hv u (List.mem_cons_of_mem _ hu)) (by rfl)).weak fun σ H Q q => ?_
    exact fun cs hcs => q (v :: cs) (.cons h1 hcs)
end
end TM
namespace TM
open PySem PySem.Spec L2
open PyProof.Rows hiding St
section
variable {Z : En} {N : List Str} {sc : Scope} {fs : Str → Bool} {k : Nat} {X : Cx} {W : WX} {ent : Ent}
theorem pe_cls1 {x : Str} {np : Pos} {us : List Value} (c : Bx Z N sc fs k X W) (hg : gOk sc x = true) (h : Paired (ClsN Z) [x] us) (hv : ∀ u ∈ us, ∃ v, ClsV v u ∧ RelV v u) : PE X (.Name x np) (tClsX us) := by
  cases h with
  | cons h1 r => cases r with | nil =>
    obtain ⟨v, q1, q2⟩ := pe_cls (np := np) c hg h1 (hv _ List.mem_cons_self)
    exact q2.weak fun σ H Q q => q v H (.inl ⟨_, rfl, q1, rfl⟩)
theorem pe_clss {es : List Expr} {xs : List Str} {us : List Value} {kk : Nat} {tpos : Pos} (c : Bx Z N sc fs k X W) (he : ClsEs sc es xs) (h : Paired (ClsN Z) xs us) (hv : ∀ u ∈ us, ∃ v, ClsV v u ∧ RelV v u) (hz : us.length ≤ sizeLine) : PE X (.Tuple es kk tpos) (tClsX us) :=
  (pe_tup (pa_clss c he h hv)).weak fun σ H Q q => by
    intro cs hcs
    refine ⟨by rw [Paired.length hcs]; exact hz, fun p hp => q (.ref p) _ (.inr ⟨p, cs, rfl, hp, rfl, hcs⟩)⟩
theorem exV_rep {G : Gb} {rho : List Addr} {F H : Hp} {v : V} {c : Str} {ns : List Str} {vs : List D} (s : Sub F H) (h : RepB G rho F H v (.exn c ns vs)) {C : Addr} (hm : G.mg c = some (.ref C)) (x : ExI G.K C) : ExV G.K H v C := by
  rcases h with h | ⟨a, sl, _, ho, e⟩
  · cases h with
    | exn h1 h2 h3 h4 l =>
      rw [hm] at h1; cases h1
      exact ⟨_, _, rfl, s _ _ h2, fun da e => by cases e; exact ⟨_, s _ _ h3⟩, x⟩
    | exn0 h1 h2 =>
      rw [hm] at h1; cases h1
      exact ⟨_, _, rfl, s _ _ h2, fun da e => (nomatch e), x⟩
  · cases sl <;> first | exact ho.elim | cases e
/-- isinstance(x, the classes): the table's word -/
theorem sem_isx {x y : Expr} {o : Opr} {xs : List Str} {tab : List (Str × Bool)} {p pos : Pos} (c : Bx Z N sc fs k X W) (hi : gOk sc "isinstance" = true) (hm : Z.mg "isinstance" = none) (ho : OpE X W ent x o) (T : TabI Z xs tab)
    (hy : ∀ us, Paired (ClsN Z) xs us → (∀ u ∈ us, ∃ v, ClsV v u ∧ RelV v u) → PE X y (tClsX us)) (hp1 : plainA x = true := by rfl) (hp2 : plainA y = true := by rfl) : PE X (.Call (.Name "isinstance" p) [x, y] [] pos) (rdE X.gb W ent (bPrim (fIsx tab) [o])) := by
  obtain ⟨us, hus, hv, ht⟩ := T.ex
  refine (pe_callB (call_isx (X := X)) (Gl.of c hi) (by rw [c.hm]; exact hm) boot_isinstance (pa_cons ho (pa_cons (hy us hus hv) pa_nil (star_plain hp2 _ _)) (star_plain hp1 _ _)) (gOk_name hi) (gOk_debug hi) (star_plain hp1 _ _) (back_plain (by rw [List.all_cons, hp2]; rfl))).weak fun σ H Q h => ?_
  have hf : PrimOk X.gb (fun vs H Q => ∃ v, vs = [v] ∧ ∀ w H2, ((∃ u, us = [u] ∧ ClsV w u ∧ H2 = H) ∨ ∃ (tp : Addr) (cs : List V), w = .ref tp ∧ H tp = none ∧ H2 = upd H tp (.tup cs) ∧ Paired ClsV cs us) → rIsx X.K [v, w] H2 Q) (fIsx tab) := by
    intro rho F H vs ds d Q s hr hf q
    unfold fIsx at hf
    split at hf
    · rename_i cc ns vs'
      obtain ⟨v, rfl, h1⟩ := repBL1 hr
      cases hl : tab.lookup cc with
      | none => rw [hl] at hf; cases hf
      | some b =>
        rw [hl] at hf; cases hf
        obtain ⟨C, gC, xC, hk⟩ := ht _ (mem_of_lookup hl)
        have gC' : X.gb.mg cc = some (.ref C) := by show X.mg cc = _; rw [c.hm]; exact gC
        have xC' : ExI X.gb.K C := by show ExI X.K C; rw [c.hK]; exact xC
        have hk' : PySem.W.kitAny X.K (.ref C) us = some b := by rw [c.hK]; exact kit_of_exm xC.self hk
        have ev := exV_rep s h1 gC' xC'
        refine ⟨v, rfl, fun w H2 hw => ?_⟩
        rcases hw with ⟨u, rfl, q1, rfl⟩ | ⟨tp, cs, rfl, hn, rfl, q1⟩
        · exact ⟨v, w, C, b, rfl, ev, q _ _ F (Grow.refl s) (.bl b), .inl ⟨u, q1, kit_any1 hk'⟩⟩
        · obtain ⟨a, da, rfl, e1, e2, e3⟩ := ev
          refine ⟨.ref a, .ref tp, C, b, rfl, ⟨a, da, rfl, by rw [upd_ne (ne_of_none e1 hn)]; exact e1, fun z hz => ?_, e3⟩, q _ _ _ (Grow.alloc s hn) (.bl b), .inr ⟨tp, cs, us, rfl, upd_same, q1, hk'⟩⟩
          obtain ⟨fs', hf'⟩ := e2 z hz
          exact ⟨fs', by rw [upd_ne (ne_of_none hf' hn)]; exact hf'⟩
    · cases hf
  exact tO_imp (show tO X.gb W ent o σ H _ from prim_of hf h) fun v H1 ⟨v', e, q⟩ => by
    cases e
    exact q
end
end TM
namespace TM
open PySem PySem.Spec L2
open PyProof.Rows hiding St

/-! ### max, min of two texts -/
section
variable {prog : Program} {w : World} {A : Around} {E : Value → Shared → Prop} {s : Shared}
theorem cmp_sgt {P : Nat → Value → Prop} (val : Nat → Str) (hval : ∀ i v, P i v → ∃ t, v = .str (val i) t) : CmpOf prog w A .Gt P (fun i j => strLt (val j) (val i)) := fun i j vi vj s Q E hi hj h => by
  obtain ⟨t, rfl⟩ := hval i vi hi
  obtain ⟨u, rfl⟩ := hval j vj hj
  exact richCompare_gives (op := .Gt) (typeIs_str s _ t) (typeIs_str s _ u) F.slot_str_gt F.entry_str_gt (F.args_str_gt_2 _ _) (gives_str_gt _ _ t u) (fun x => nomatch x) h
theorem cmp_slt {P : Nat → Value → Prop} (val : Nat → Str) (hval : ∀ i v, P i v → ∃ t, v = .str (val i) t) : CmpOf prog w A .Lt P (fun i j => strLt (val i) (val j)) := fun i j vi vj s Q E hi hj h => by
  obtain ⟨t, rfl⟩ := hval i vi hi
  obtain ⟨u, rfl⟩ := hval j vj hj
  exact richCompare_gives (op := .Lt) (typeIs_str s _ t) (typeIs_str s _ u) F.slot_str_lt F.entry_str_lt (F.args_str_lt_2 _ _) (gives_str_lt _ _ t u) (fun x => nomatch x) h
def strItems (xs : Array (Str × Tok)) : Array Value := xs.map fun p => .str p.1 p.2
def strAt (xs : Array (Str × Tok)) (i : Nat) : Str := (xs[i]?.map (·.1)).getD ⟨#[]⟩
theorem strItems_at {xs : Array (Str × Tok)} {i : Nat} {v : Value} (h : (strItems xs)[i]? = some v) : ∃ t, v = .str (strAt xs i) t := by
  simp only [strItems, Array.getElem?_map, Option.map_eq_some_iff] at h
  obtain ⟨p, hp, rfl⟩ := h
  exact ⟨p.2, by simp [strAt, hp]⟩
theorem max_two_strs {a b : Str} {t u : Tok} {Q : Value → Shared → Prop} (hh : A.handled = none)
    (h : ∀ h' tk, (∀ c o, s.heap.get? c = some o → h'.get? c = some o) → Q (if strLt a b = true then .str b u else .str a t) { s with heap := h', toks := tk }) :
    wpAny (model prog w) A (call (.builtin "max") [.str a t, .str b u]) Q E s := by
  have hT : (s.heap.push { cls := .type "tuple", data := .seq #[.str a t, .str b u] }).IsTuple s.heap.objs.size (strItems #[(a, t), (b, u)]) := ⟨_, Heap.get?_push_size _ rfl, rfl, 0, by simp [strItems]⟩
  refine call_max_two (wpAny_pyIter_tuple hT ?_)
  have hsz : (s.heap.push { cls := .type "tuple", data := .seq #[.str a t, .str b u] }).objs.size = s.heap.objs.size + 1 := Heap.size_push ..
  refine ⟨_, [_, s.heap.objs.size], [_], _, _, _, _, rfl, Walks.tuple (A := A.in1) hh _ s.heap.objs.size (by rw [hsz]; exact Nat.ne_of_lt (Nat.lt_succ_self _)) (strItems #[(a, t), (b, u)]),
    ⟨⟨_, Heap.get?_push_size _ rfl, rfl, rfl⟩, hT.push _⟩, fun c hc => ?_, by simp [strItems], cmp_sgt (strAt #[(a, t), (b, u)]) (fun _ _ => strItems_at), fun v h' tk hP hk => ?_⟩
  · show c < ((s.heap.push _).push _).objs.size
    rw [Heap.size_push, hsz]
    rcases List.mem_cons.mp hc with rfl | hc
    · rw [hsz]; exact Nat.lt_succ_self _
    · rcases List.mem_cons.mp hc with rfl | hc
      · exact Nat.lt_succ_of_lt (Nat.lt_succ_self _)
      · cases hc
  · have hold : ∀ c o, s.heap.get? c = some o → h'.get? c = some o := fun c o e => by
      refine hk c o (fun hm => ?_) (Heap.get?_push_of_some _ (Heap.get?_push_of_some _ e))
      rcases List.mem_cons.mp hm with e1 | hm
      · have := Heap.lt_size e; rw [e1, hsz] at this; exact Nat.lt_irrefl _ (Nat.lt_of_succ_lt this)
      · cases hm
    have := h h' tk hold
    have hv : v = if strLt a b = true then Value.str b u else Value.str a t := by
      have hP' : (strItems #[(a, t), (b, u)])[argBest (fun i j => strLt (strAt #[(a, t), (b, u)] j) (strAt #[(a, t), (b, u)] i)) 1]? = some v := by
        have hsz2 : (strItems #[(a, t), (b, u)]).size - 1 = 1 := by simp [strItems]
        rw [← hsz2]; exact hP
      by_cases hba : strLt a b = true
      · have e : argBest (fun i j => strLt (strAt #[(a, t), (b, u)] j) (strAt #[(a, t), (b, u)] i)) 1 = 1 := by simp [argBest, strAt, hba]
        rw [e] at hP'
        simpa [strItems, hba] using hP'.symm
      · have e : argBest (fun i j => strLt (strAt #[(a, t), (b, u)] j) (strAt #[(a, t), (b, u)] i)) 1 = 0 := by simp [argBest, strAt, hba]
        rw [e] at hP'
        simpa [strItems, hba] using hP'.symm
    rw [hv]; exact this
theorem min_two_strs {a b : Str} {t u : Tok} {Q : Value → Shared → Prop} (hh : A.handled = none)
    (h : ∀ h' tk, (∀ c o, s.heap.get? c = some o → h'.get? c = some o) → Q (if strLt b a = true then .str b u else .str a t) { s with heap := h', toks := tk }) :
    wpAny (model prog w) A (call (.builtin "min") [.str a t, .str b u]) Q E s := by
  have hT : (s.heap.push { cls := .type "tuple", data := .seq #[.str a t, .str b u] }).IsTuple s.heap.objs.size (strItems #[(a, t), (b, u)]) := ⟨_, Heap.get?_push_size _ rfl, rfl, 0, by simp [strItems]⟩
  refine call_min_two (wpAny_pyIter_tuple hT ?_)
  have hsz : (s.heap.push { cls := .type "tuple", data := .seq #[.str a t, .str b u] }).objs.size = s.heap.objs.size + 1 := Heap.size_push ..
  refine ⟨_, [_, s.heap.objs.size], [_], _, _, _, _, rfl, Walks.tuple (A := A.in1) hh _ s.heap.objs.size (by rw [hsz]; exact Nat.ne_of_lt (Nat.lt_succ_self _)) (strItems #[(a, t), (b, u)]),
    ⟨⟨_, Heap.get?_push_size _ rfl, rfl, rfl⟩, hT.push _⟩, fun c hc => ?_, by simp [strItems], cmp_slt (strAt #[(a, t), (b, u)]) (fun _ _ => strItems_at), fun v h' tk hP hk => ?_⟩
  · show c < ((s.heap.push _).push _).objs.size
    rw [Heap.size_push, hsz]
    rcases List.mem_cons.mp hc with rfl | hc
    · rw [hsz]; exact Nat.lt_succ_self _
    · rcases List.mem_cons.mp hc with rfl | hc
      · exact Nat.lt_succ_of_lt (Nat.lt_succ_self _)
      · cases hc
  · have hold : ∀ c o, s.heap.get? c = some o → h'.get? c = some o := fun c o e => by
      refine hk c o (fun hm => ?_) (Heap.get?_push_of_some _ (Heap.get?_push_of_some _ e))
      rcases List.mem_cons.mp hm with e1 | hm
      · have := Heap.lt_size e; rw [e1, hsz] at this; exact Nat.lt_irrefl _ (Nat.lt_of_succ_lt this)
      · cases hm
    have := h h' tk hold
    have hv : v = if strLt b a = true then Value.str b u else Value.str a t := by
      have hP' : (strItems #[(a, t), (b, u)])[argBest (fun i j => strLt (strAt #[(a, t), (b, u)] i) (strAt #[(a, t), (b, u)] j)) 1]? = some v := by
        have hsz2 : (strItems #[(a, t), (b, u)]).size - 1 = 1 := by simp [strItems]
        rw [← hsz2]; exact hP
      by_cases hba : strLt b a = true
      · have e : argBest (fun i j => strLt (strAt #[(a, t), (b, u)] i) (strAt #[(a, t), (b, u)] j)) 1 = 1 := by simp [argBest, strAt, hba]
        rw [e] at hP'
        simpa [strItems, hba] using hP'.symm
      · have e : argBest (fun i j => strLt (strAt #[(a, t), (b, u)] i) (strAt #[(a, t), (b, u)] j)) 1 = 0 := by simp [argBest, strAt, hba]
        rw [e] at hP'
        simpa [strItems, hba] using hP'.symm
    rw [hv]; exact this
end
section
variable {X : Cx}
theorem call_maxS (hc : X.calm = true) : CallR X (.builtin "max") (fun xs H Q => ∃ i j, xs = [.str i, .str j] ∧ Q (.str (if strLt i j = true then j else i)) H) := by
  intro pins s σ H xs us Q I r h
  obtain ⟨i, j, rfl, q⟩ := h
  obtain ⟨u, w', rfl, ⟨t, rfl⟩, ⟨t', rfl⟩⟩ := vals2 r
  refine max_two_strs (I.ok.hd hc) fun h' tk k => ⟨_, H, I.kept k, ?_, q⟩
  by_cases hj : strLt i j = true
  · rw [if_pos hj, if_pos hj]; exact ⟨_, rfl⟩
  · rw [if_neg hj, if_neg hj]; exact ⟨_, rfl⟩
theorem call_minS (hc : X.calm = true) : CallR X (.builtin "min") (fun xs H Q => ∃ i j, xs = [.str i, .str j] ∧ Q (.str (if strLt j i = true then j else i)) H) := by
  intro pins s σ H xs us Q I r h
  obtain ⟨i, j, rfl, q⟩ := h
  obtain ⟨u, w', rfl, ⟨t, rfl⟩, ⟨t', rfl⟩⟩ := vals2 r
  refine min_two_strs (I.ok.hd hc) fun h' tk k => ⟨_, H, I.kept k, ?_, q⟩
  by_cases hj : strLt j i = true
  · rw [if_pos hj, if_pos hj]; exact ⟨_, rfl⟩
  · rw [if_neg hj, if_neg hj]; exact ⟨_, rfl⟩
end
def fMaxS : PF
  | [.str a, .str b] => some (.str (if strLt a b = true then b else a))
  | _ => none
def fMinS : PF
  | [.str a, .str b] => some (.str (if strLt b a = true then b else a))
  | _ => none
theorem ok_maxS {G : Gb} : PrimOk G (fun xs H Q => ∃ i j, xs = [.str i, .str j] ∧ Q (.str (if strLt i j = true then j else i)) H) fMaxS := by
  intro rho F H vs ds d Q s hr hf q
  unfold fMaxS at hf
  split at hf
  · cases hf
    obtain ⟨v, w, rfl, h1, h2⟩ := repBL2 hr
    cases repB_str h1; cases repB_str h2
    exact ⟨_, _, rfl, q _ H F (Grow.refl s) (.str _)⟩
  · cases hf
theorem ok_minS {G : Gb} : PrimOk G (fun xs H Q => ∃ i j, xs = [.str i, .str j] ∧ Q (.str (if strLt j i = true then j else i)) H) fMinS := by
  intro rho F H vs ds d Q s hr hf q
  unfold fMinS at hf
  split at hf
  · cases hf
    obtain ⟨v, w, rfl, h1, h2⟩ := repBL2 hr
    cases repB_str h1; cases repB_str h2
    exact ⟨_, _, rfl, q _ H F (Grow.refl s) (.str _)⟩
  · cases hf

/-! ### x.ljust(n, "c"), x.zfill(n) -/
section
open Builtin Builtin.Str Builtin.Int
theorem gives_ljustF (x f : Str) (c : Nat) (hf : f = ⟨#[c]⟩) (i : Int) (t u v : Tok) (hr : (decide (i < -(2 ^ 63 : Int)) || decide (i ≥ 2 ^ 63)) = false) (hl : tooLong i.toNat = false) :
    Gives («str.ljust» ⟨[.str x t, .int i u, .str f v], []⟩) (if i ≤ x.length then .val (.str x t) else .str (padded x 0 (i.toNat - x.length) c)) := by
  subst hf
  show Gives (do
             let width ← asSsize s!"str.ljust" (.int i u)
             if width ≤ x.length then (do rule s!"str.ljust.long-enough"; ret (.str x t)) else
             if tooLong width.toNat = true then unsupported s!"str.ljust:memory" else retStr (padded x 0 (width.toNat - x.length) c)) _
  rw [asSsize_int _ _ _ hr]
  show Gives (if i ≤ x.length then (do rule s!"str.ljust.long-enough"; ret (.str x t)) else if tooLong i.toNat = true then unsupported s!"str.ljust:memory" else retStr (padded x 0 (i.toNat - x.length) c)) _
  rw [hl]
  by_cases h : i ≤ (x.length : Int)
  · rw [if_pos h, if_pos h]; exact .rule (.of_eq rfl)
  · rw [if_neg h, if_neg h]; exact .of_eq rfl
def ljustC (x : Str) (i : Int) (c : Nat) : Str := if i ≤ x.length then x else padded x 0 (i.toNat - x.length) c
theorem run_ljustF {prog : Program} {w : World} {A : Around} {E : Value → Shared → Prop} {s : Shared} {x f : Str} {t v : Tok} {c : Nat} {Q : Value → Shared → Prop} (hf : f = ⟨#[c]⟩) {i : Int} {u : Tok} (hp : PadOk i = true) (hq : ∀ t' k, Q (.str (ljustC x i c) t') { s with toks := k }) :
    wpAny (model prog w) A (call (.builtin "str.ljust") [.str x t, .int i u, .str f v]) Q E s :=
  call_gives F.slot_str_ljust (typeIs_str _ _ _) F.entry_str_ljust (F.args_str_ljust_3 _ _ _) (gives_ljustF x f c hf i t u v (PadOk.parts hp).1 (PadOk.parts hp).2) (post_val_or_made (fits_padR c (PadOk.parts hp).2) hq)
end
theorem mt_ljustF {X : Cx} : MtR X "str.ljust" (fun x xs H Q => ∃ (a f : Str) (i : Int) (c : Nat), x = .str a ∧ xs = [.int i, .str f] ∧ f = ⟨#[c]⟩ ∧ PadOk i = true ∧ Q (.str (ljustC a i c)) H) := by
  intro pins s σ H x xs v us Q I rx rs h
  obtain ⟨a, f, i, c, rfl, rfl, hf, hc, h⟩ := h
  obtain ⟨t, rfl⟩ := rx
  obtain ⟨u, w', rfl, ⟨t1, rfl⟩, ⟨t2, rfl⟩⟩ := vals2 rs
  exact run_ljustF hf hc fun t' k => ⟨.str _, H, I.tok k, ⟨_, rfl⟩, h⟩
def fLjust : PF
  | [.str a, .int i, .str f] => match f.cps.toList with
    | [c] => if PadOk i = true then some (.str (ljustC a i c)) else none
    | _ => none
  | _ => none
theorem ok_ljustF {G : Gb} : PrimOk G (fun vs H Q => match vs with | v :: vs => (∃ (a f : Str) (i : Int) (c : Nat), v = .str a ∧ vs = [.int i, .str f] ∧ f = ⟨#[c]⟩ ∧ PadOk i = true ∧ Q (.str (ljustC a i c)) H) | [] => False) fLjust := by
  intro rho F H vs ds d Q s hr hf q
  unfold fLjust at hf
  split at hf
  · rename_i a i f
    split at hf
    · rename_i c hc
      split at hf
      · rename_i hp
        cases hf
        obtain ⟨v, w, u, rfl, h1, h2, h3⟩ := repBL3 hr
        cases repB_str h1; cases repB_int h2; cases repB_str h3
        refine ⟨a, f, i, c, rfl, rfl, ?_, hp, q _ H F (Grow.refl s) (.str _)⟩
        obtain ⟨⟨l⟩⟩ := f
        simp only at hc
        rw [hc]
      · cases hf
    · cases hf
  · cases hf
def fZfill : PF
  | [.str a, .int i] => if PadOk i = true then some (.str (Txt.zfill a i)) else none
  | _ => none
theorem ok_zfill {G : Gb} : PrimOk G (fun vs H Q => match vs with | v :: vs => (∃ (a : Str) (i : Int), v = .str a ∧ vs = [.int i] ∧ PadOk i = true ∧ Q (.str (Txt.zfill a i)) H) | [] => False) fZfill := by
  intro rho F H vs ds d Q s hr hf q
  unfold fZfill at hf
  split at hf
  · split at hf
    · rename_i hp
      cases hf
      obtain ⟨v, w, rfl, h1, h2⟩ := repBL2 hr
      cases repB_str h1; cases repB_int h2
      exact ⟨_, _, rfl, rfl, hp, q _ H F (Grow.refl s) (.str _)⟩
    · cases hf
  · cases hf

/-! ### x += e, of ints -/
def sAug (i : Nat) (f : PF) (m : Ex) : Sm := fun e S => match e[i]? with
  | some (some (.val (.int a))) => (m e S).bind fun d e S => match d with
    | .int b => match f [.int a, .int b] with
      | some r => .ok .next (e.set i (some (.val r))) S
      | none => .stuck
    | _ => .stuck
  | _ => .stuck
section
variable {Z : En} {N : List Str} {sc : Scope} {fs : Str → Bool} {k : Nat} {X : Cx} {W : WX} {ent : Ent} {pos pos' : Pos}
theorem saug_of {i : Nat} {y : Str} {x : Expr} {m : Ex} {f : PF} {g : Int → Int → Int} {op : Operator} (hg : ∀ a b : Int, f [.int a, .int b] = some (.int (g a b))) (ho : PIp X op (ipI g)) (c : Bx Z N sc fs k X W) (h : tOk N sc fs i y = true) (hx : PE X x (rdE X.gb W ent m)) :
    PS X (.AugAssign (.Name y pos') op x pos) (rdS X.gb W ent (sAug i f m)) := by
  unfold tOk at h
  simp only [Bool.and_eq_true, decide_eq_true_eq, Bool.or_eq_true] at h
  obtain ⟨h1, h2, h3⟩ := h
  refine (ps_aug c.nd (by rw [c.n]; exact h1) (by unfold L2.Loc; rw [c.s]; exact isLoc_of h2) hx ho (by
    rcases h3 with h3 | h3
    · left; rw [c.f]; exact h3
    · right; rw [c.s]; exact isL_of h3)).weak fun Dn σ H ⟨e, S, F, rho, hR, hp⟩ => ?_
  unfold sAug at hp
  split at hp
  · rename_i a ha
    obtain ⟨v, hv, hr⟩ := hR.val i _ ha
    cases hr
    refine ⟨_, hv, e, S, F, rho, hR, ?_⟩
    cases q : m e S with
    | ok d e1 S1 =>
      rw [q] at hp
      intro w H' F' rho' r s p rw'
      cases d with
      | int b =>
        have hp : postS X.gb W ent F rho Dn (match f [.int a, .int b] with
          | some r => .ok .next (e1.set i (some (.val r))) S1
          | none => .stuck) := hp
        rw [hg] at hp
        cases rw'
        exact ⟨a, b, rfl, rfl, hp _ H' F' rho' (r.setW (v := .int (g a b)) (s := .val (.int (g a b))) (.int _) i) s p⟩
      | _ => exact hp.elim
    | exc x e1 S1 => rw [q] at hp; exact hp σ
    | stuck => rw [q] at hp; exact hp
  · exact hp.elim
theorem saugAdd {i : Nat} {y : Str} {x : Expr} {m : Ex} (c : Bx Z N sc fs k X W) (h : tOk N sc fs i y = true) (hx : PE X x (rdE X.gb W ent m)) : PS X (.AugAssign (.Name y pos') .Add x pos) (rdS X.gb W ent (sAug i fAdd m)) := saug_of (fun _ _ => rfl) ip_add c h hx
theorem saugSub {i : Nat} {y : Str} {x : Expr} {m : Ex} (c : Bx Z N sc fs k X W) (h : tOk N sc fs i y = true) (hx : PE X x (rdE X.gb W ent m)) : PS X (.AugAssign (.Name y pos') .Sub x pos) (rdS X.gb W ent (sAug i fSub m)) := saug_of (fun _ _ => rfl) ip_sub c h hx
end
end TM
namespace TM.P04
open PySem PySem.Spec L2 NumText TL

/-! texts of figures -/
theorem dv_snoc (a : List Nat) (c : Nat) : digitsVal (a ++ [c]) = digitsVal a * 10 + (c - 48) := digitsVal_snoc a c
theorem dv_fold : ∀ (a : List Nat) (k : Nat), a.foldl (fun acc c => acc * 10 + (c - 48)) k = k * 10 ^ a.length + digitsVal a
  | [], k => by simp [digitsVal]
  | c :: a, k => by
    have h1 := dv_fold a (k * 10 + (c - 48))
    have h2 := dv_fold a (0 * 10 + (c - 48))
    show a.foldl _ (k * 10 + (c - 48)) = _
    have e : digitsVal (c :: a) = a.foldl (fun acc c => acc * 10 + (c - 48)) (0 * 10 + (c - 48)) := rfl
    rw [h1, e, h2, List.length_cons, Nat.pow_succ]
    simp only [Nat.zero_mul, Nat.zero_add, Nat.add_mul]
    rw [Nat.mul_assoc, Nat.mul_comm 10 (10 ^ a.length)]
    omega
theorem dv_cons (c : Nat) (a : List Nat) : digitsVal (c :: a) = (c - 48) * 10 ^ a.length + digitsVal a := by
  have h := dv_fold a (0 * 10 + (c - 48))
  rw [Nat.zero_mul, Nat.zero_add] at h
  show a.foldl _ (0 * 10 + (c - 48)) = _
  rw [Nat.zero_mul, Nat.zero_add]
  exact h
theorem dv_lt : ∀ {a : List Nat}, AllDigits a → digitsVal a < 10 ^ a.length
  | [], _ => by simp [digitsVal]
  | c :: a, h => by
    have h1 := dv_lt h.tail
    have h2 := h.head
    rw [dv_cons, List.length_cons, Nat.pow_succ]
    have h3 : (c - 48) * 10 ^ a.length ≤ 9 * 10 ^ a.length := Nat.mul_le_mul_right _ (by omega)
    omega
theorem dv_inj : ∀ {a b : List Nat}, AllDigits a → AllDigits b → a.length = b.length → digitsVal a = digitsVal b → a = b
  | [], [], _, _, _, _ => rfl
  | [], _ :: _, _, _, h, _ => by cases h
  | _ :: _, [], _, _, h, _ => by cases h
  | c :: a, d :: b, ha, hb, hl, hv => by
    have hl' : a.length = b.length := by simpa using hl
    rw [dv_cons, dv_cons, hl'] at hv
    have h1 := dv_lt ha.tail
    have h2 := dv_lt hb.tail
    rw [hl'] at h1
    have c1 := ha.head
    have c2 := hb.head
    have e : c - 48 = d - 48 := by
      rcases Nat.lt_trichotomy (c - 48) (d - 48) with q | q | q
      · have := Nat.mul_le_mul_right (10 ^ b.length) (show c - 48 + 1 ≤ d - 48 from q)
        rw [Nat.add_mul, Nat.one_mul] at this
        omega
      · exact q
      · have := Nat.mul_le_mul_right (10 ^ b.length) (show d - 48 + 1 ≤ c - 48 from q)
        rw [Nat.add_mul, Nat.one_mul] at this
        omega
    rw [e] at hv
    have := dv_inj ha.tail hb.tail hl' (by omega)
    subst this
    have : c = d := by omega
    rw [this]
theorem dv_zeros (k : Nat) : digitsVal (List.replicate k 48) = 0 := by
  induction k with
  | zero => rfl
  | succ k ih => rw [List.replicate_succ, dv_cons, ih]; simp
theorem dv_app : ∀ (a b : List Nat), digitsVal (a ++ b) = digitsVal a * 10 ^ b.length + digitsVal b
  | [], b => by simp [digitsVal]
  | c :: a, b => by
    rw [List.cons_append, dv_cons, dv_app a b, dv_cons, List.length_append, Nat.pow_add, Nat.add_mul, Nat.mul_assoc]
    omega
theorem ad_zeros (k : Nat) : AllDigits (List.replicate k 48) := fun c hc => by
  rw [List.eq_of_mem_replicate hc]; omega
theorem ad_app {a b : List Nat} (h : AllDigits a) (k : AllDigits b) : AllDigits (a ++ b) := fun c hc => (List.mem_append.mp hc).elim (h c) (k c)
theorem ad_take {a : List Nat} (h : AllDigits a) (k : Nat) : AllDigits (a.take k) := fun c hc => h c (List.mem_of_mem_take hc)

/-- the first figures, so many -/
def pad (l : List Nat) (n : Nat) : List Nat := l.take n ++ List.replicate (n - l.length) 48
theorem pad_len (l : List Nat) (n : Nat) : (pad l n).length = n := by
  unfold pad; rw [List.length_append, List.length_take, List.length_replicate]; omega
theorem pad_ad {l : List Nat} (h : AllDigits l) (n : Nat) : AllDigits (pad l n) := ad_app (ad_take h n) (ad_zeros _)
theorem pad_cons (d : Nat) (l : List Nat) (n : Nat) : pad (d :: l) (n + 1) = d :: pad l n := by
  unfold pad
  rw [List.take_succ_cons, List.length_cons, Nat.add_sub_add_right]; rfl
theorem pad_nil (n : Nat) : pad [] n = List.replicate n 48 := by simp [pad]

/-- less than a text, by whole numbers -/
theorem lt_iff : ∀ {u h : List Nat}, AllDigits u → AllDigits h → (u < h ↔ digitsVal u + (if h.length ≤ u.length then 1 else 0) ≤ digitsVal (pad h u.length))
  | [], h, _, _ => by
    cases h with
    | nil => simp [digitsVal, pad]
    | cons d h => simp [digitsVal, pad, List.nil_lt_cons]
  | c :: u, [], _, _ => by
    rw [pad_nil, dv_zeros]
    simp [List.not_lt_nil]
  | c :: u, d :: h, hu, hh => by
    have ih := lt_iff hu.tail hh.tail
    have c1 := hu.head
    have c2 := hh.head
    rw [List.cons_lt_cons_iff, ih]
    simp only [List.length_cons, pad_cons, dv_cons, pad_len]
    have h1 := dv_lt hu.tail
    have h2 := dv_lt (pad_ad hh.tail u.length)
    rw [pad_len] at h2
    have e : (if h.length + 1 ≤ u.length + 1 then 1 else 0) = (if h.length ≤ u.length then 1 else 0 : Nat) := by
      by_cases q : h.length ≤ u.length
      · rw [if_pos q, if_pos (by omega)]
      · rw [if_neg q, if_neg (by omega)]
    rw [e]
    have le1 : (if h.length ≤ u.length then 1 else 0 : Nat) ≤ 1 := by split <;> omega
    generalize (if h.length ≤ u.length then 1 else 0 : Nat) = b at *
    generalize 10 ^ u.length = P at *
    generalize digitsVal u = x at *
    generalize digitsVal (pad h u.length) = y at *
    rcases Nat.lt_trichotomy c d with q | q | q
    · have := Nat.mul_le_mul_right P (show c - 48 + 1 ≤ d - 48 by omega)
      rw [Nat.add_mul, Nat.one_mul] at this
      constructor
      · intro _; omega
      · intro _; exact .inl q
    · subst q
      constructor
      · rintro (q | ⟨_, q⟩) <;> omega
      · intro q; exact .inr ⟨rfl, by omega⟩
    · have := Nat.mul_le_mul_right P (show d - 48 + 1 ≤ c - 48 by omega)
      rw [Nat.add_mul, Nat.one_mul] at this
      constructor
      · rintro (q | ⟨q, _⟩) <;> omega
      · intro q; omega
theorem lt_of_pad : ∀ {l u : List Nat}, AllDigits l → AllDigits u → digitsVal (pad l u.length) < digitsVal u → l < u
  | l, [], _, _, h => by simp [digitsVal] at h
  | [], c :: u, _, _, _ => List.nil_lt_cons ..
  | d :: l, c :: u, hl, hu, h => by
    rw [List.length_cons, pad_cons, dv_cons, dv_cons, pad_len] at h
    have h1 := dv_lt hu.tail
    have h2 := dv_lt (pad_ad hl.tail u.length)
    rw [pad_len] at h2
    have c1 := hu.head
    have c2 := hl.head
    rw [List.cons_lt_cons_iff]
    rcases Nat.lt_trichotomy d c with q | q | q
    · exact .inl q
    · subst q
      exact .inr ⟨rfl, lt_of_pad hl.tail hu.tail (by omega)⟩
    · have := Nat.mul_le_mul_right (10 ^ u.length) (show c - 48 + 1 ≤ d - 48 by omega)
      rw [Nat.add_mul, Nat.one_mul] at this
      omega

/-- the first place of so many figures behind a text -/
def frst (l : List Nat) (n : Nat) : Nat := if (digitsVal (pad l n) + 1) % 10 = 0 then digitsVal (pad l n) + 1 + 1 else digitsVal (pad l n) + 1
def dg (n m : Nat) : List Nat := List.replicate (n - (numL m).length) 48 ++ numL m
theorem dg_ad (n m : Nat) : AllDigits (dg n m) := ad_app (ad_zeros _) (numL_digits m)
theorem dg_val (n m : Nat) : digitsVal (dg n m) = m := by unfold dg; rw [dv_app, dv_zeros, numL_val]; simp
theorem dg_len {n m : Nat} (h : 0 < n) (k : m < 10 ^ n) : (dg n m).length = n := by
  unfold dg
  have := numL_len h k
  rw [List.length_append, List.length_replicate]; omega
theorem dg_lenN {n m : Nat} (h : 0 < n) : (dg n m).length = n ↔ m < 10 ^ n := by
  constructor
  · intro q
    have := dv_lt (dg_ad n m)
    rw [dg_val, q] at this; exact this
  · exact dg_len h
theorem frst_pos (l : List Nat) (n : Nat) : digitsVal (pad l n) < frst l n ∧ frst l n % 10 ≠ 0 := by
  unfold frst
  split <;> constructor <;> omega
/-- a longer one: noughts and a one -/
theorem long_dg {l : List Nat} {n : Nat} (hl : AllDigits l) (h : l.length < n) : l ++ List.replicate (n - 1 - l.length) 48 ++ [49] = dg n (frst l n) ∧ frst l n < 10 ^ n := by
  have e1 : pad l n = (l ++ List.replicate (n - 1 - l.length) 48) ++ [48] := by
    unfold pad
    rw [List.take_of_length_le (by omega), List.append_assoc, ← List.replicate_succ', show n - l.length = n - 1 - l.length + 1 by omega]
  have e2 : digitsVal (pad l n) = digitsVal (l ++ List.replicate (n - 1 - l.length) 48) * 10 := by rw [e1, dv_snoc]; simp
  have e3 : frst l n = digitsVal (l ++ List.replicate (n - 1 - l.length) 48 ++ [49]) := by
    unfold frst
    rw [dv_snoc, if_neg (by omega)]
    omega
  have a1 : AllDigits (l ++ List.replicate (n - 1 - l.length) 48 ++ [49]) := ad_app (ad_app hl (ad_zeros _)) fun c hc => by rw [List.mem_singleton.mp hc]; omega
  have l1 : (l ++ List.replicate (n - 1 - l.length) 48 ++ [49]).length = n := by simp; omega
  have lt : frst l n < 10 ^ n := by
    have := dv_lt a1
    rw [l1] at this; rw [e3]; exact this
  exact ⟨dv_inj a1 (dg_ad _ _) (by rw [l1, dg_len (by omega) lt]) (by rw [dg_val, e3]), lt⟩
theorem numL_last (n : Nat) : ∃ a, numL n = a ++ [48 + n % 10] := by
  by_cases h : n < 10
  · exact ⟨[], by rw [numL_lt h, Nat.mod_eq_of_lt h]; rfl⟩
  · exact ⟨_, numL_step (by omega)⟩
/-- what is due of one size -/
def topOf : Option (List Nat) → Nat → Int
  | none, n => ((10 ^ n : Nat) : Int) - 1
  | some h, n => ((digitsVal (pad h n) : Nat) : Int) - (if h.length ≤ n then 1 else 0)
def okAt (l : List Nat) (h : Option (List Nat)) (n : Nat) : Bool := decide (((frst l n : Nat) : Int) ≤ topOf h n)
theorem okAt_lt {l : List Nat} {h : Option (List Nat)} {n : Nat} (hh : ∀ x, h = some x → AllDigits x) (q : okAt l h n = true) : frst l n < 10 ^ n := by
  unfold okAt at q
  rw [decide_eq_true_eq] at q
  cases h with
  | none => simp only [topOf] at q; omega
  | some x =>
    have := dv_lt (pad_ad (hh x rfl) n)
    rw [pad_len] at this
    simp only [topOf] at q
    split at q <;> omega
theorem okAt_iff {l : List Nat} {h : Option (List Nat)} {n : Nat} (hn : 0 < n) (hh : ∀ x, h = some x → AllDigits x) : okAt l h n = true ↔ frst l n < 10 ^ n ∧ ∀ x, h = some x → dg n (frst l n) < x := by
  constructor
  · intro q
    have lt := okAt_lt hh q
    refine ⟨lt, fun x hx => ?_⟩
    subst hx
    rw [lt_iff (dg_ad _ _) (hh x rfl), dg_len hn lt, dg_val]
    unfold okAt at q
    rw [decide_eq_true_eq] at q
    simp only [topOf] at q
    split at q
    · rename_i z; rw [if_pos z]; omega
    · rename_i z; rw [if_neg z]; omega
  · rintro ⟨lt, q⟩
    unfold okAt
    rw [decide_eq_true_eq]
    cases h with
    | none => simp only [topOf]; omega
    | some x =>
      have := q x rfl
      rw [lt_iff (dg_ad _ _) (hh x rfl), dg_len hn lt, dg_val] at this
      simp only [topOf]
      split at this
      · rename_i z; rw [if_pos z]; omega
      · rename_i z; rw [if_neg z]; omega
/-- the place that is due, by sizes from n on, so many -/
def dueFrom (l : List Nat) (h : Option (List Nat)) : Nat → Nat → Option (List Nat)
  | _, 0 => none
  | n, k + 1 => if okAt l h n = true then some (dg n (frst l n)) else dueFrom l h (n + 1) k
theorem due_is {l : List Nat} {h : Option (List Nat)} : ∀ {k n : Nat} {u : List Nat}, dueFrom l h n k = some u → ∃ j, n ≤ j ∧ j < n + k ∧ okAt l h j = true ∧ u = dg j (frst l j)
  | 0, n, u, q => by cases q
  | k + 1, n, u, q => by
    unfold dueFrom at q
    split at q
    · rename_i z; cases q; exact ⟨n, Nat.le_refl _, by omega, z, rfl⟩
    · obtain ⟨j, h1, h2, h3, h4⟩ := due_is q
      exact ⟨j, by omega, by omega, h3, h4⟩
end TM.P04
namespace TM.K04
open PySem PySem.Spec L2 TM
open PyProof.Rows hiding St
def topS (i : Nat) : Stmt := PySem.Challenge.pw_treemerge_k04_places_between_places.main.body.getD i (.Pass ⟨0, 0, 0, 0⟩)

abbrev s_is_word : Stmt := topS 22
theorem sc_is_word : FnScope ["thing", "signs", "longest", "sign"] ["thing", "signs", "longest"] (defScope s_is_word) := ⟨rfl, rfl, rfl, by decide +kernel, rfl, by decide +kernel, by decide +kernel⟩
def m_is_word_0 : Ex := bPrim fIn [.sl 3, .sl 1]
def m_is_word : Sm := sSeq (sRet (wVal (bAnd (bPrim fIsi [.sl 0, .ex (bC (.ty "str"))]) (bAnd (bChain fLt fLe (.ex (bC (.int 0))) (.ex (bPrim fLen [.sl 0])) (.sl 2)) (bPrim fAll [.ex (eFrz (wComp (iVal (bVar 0)) [3] (.nm 3) bTT (m_is_word_0)))]))))) (sOk .next)
def F_is_word : Fsem := fsem 4 m_is_word
abbrev I_is_word : FnI := ⟨["thing", "signs", "longest"], F_is_word, [.str "abcdefghijklmnopqrstuvwxyz", .int 8], [(1, ["signs", "longest"], [.pos 0, .kw 0, .kw 1])]⟩
theorem b_is_word {Z : En} {k : Nat} {X : Cx} {W : WX} {ent : Ent}  (n_all : Z.mg "all" = none) (n_len : Z.mg "len" = none) (n_str : Z.mg "str" = none) (n_isinstance : Z.mg "isinstance" = none)   (c : Dx Z ["thing", "signs", "longest", "sign"] (defScope s_is_word) k X W) : PSs X (defBody s_is_word) (rdS X.gb W ent m_is_word) := by
  have c0 := c.toBx
  exact (semB_cons (semS_ret (semW_val (sem_and (sem_bi c0 call_isi ok_isi (by decide +kernel) n_isinstance (by decide +kernel) (opc (ov c0 0 (by decide +kernel)) (opc (ox (xty c0 (by decide +kernel) n_str (by decide +kernel))) opn))) (sem_and (sem_chain op_ltD op_leD ok_ord ok_ord (ox xi) (ox (sem_bi c0 c_len ok_len (by decide +kernel) n_len (by decide +kernel) (opc (ov c0 0 (by decide +kernel)) opn))) (ov c0 2 (by decide +kernel))) (sem_one (sem_bi c0 (cr_all c0.calm) ok_all (by decide +kernel) n_all (by decide +kernel) (opc (ox (sem_frz (semW_lc c0 [("sign", 3)] (by decide +kernel) (semI_val (xv c0 0 (by decide +kernel))) tg_nm rfl fun s1 H1 C1 cl1 fp1 c1 => ⟨(gn c1 3 (by decide +kernel)), .nil, fun ent => (sem_cmp (op_inA (hu65 c1)) ok_in (ov c1 3 (by decide +kernel)) (ov c1 1 (by decide +kernel)) (by rfl))⟩))) opn))))))) semB_nil)
theorem t_is_word {Z : En} {k : Nat} {fa : Addr} {fd : FuncData}  (n_all : Z.mg "all" = none) (n_len : Z.mg "len" = none) (n_str : Z.mg "str" = none) (n_isinstance : Z.mg "isinstance" = none)   (F : L2.FunD Z.K "is_word" "is_word" (defArgs s_is_word) (defBody s_is_word) (defScope s_is_word) [.str "abcdefghijklmnopqrstuvwxyz", .int 8] [] fa fd) (g : Z.mg "is_word" = some (.ref fa)) : FnAt Z.P Z.w Z.K Z.mg Z.base (k + 1) "is_word" I_is_word :=
  fnAt_d F g sc_is_word (List.cons_ne_nil _ _) (fun _ _ => (.cons (.str _) (.cons (.int _) .nil))) (List.forall_mem_cons.mpr ⟨⟨rfl, fun T _ _ _ _ _ _ us its ws h1 h2 h3 => match us, its, ws, h1, h2, h3 with | [_], [_, _], [_, _], _, _, _ => ⟨_, rfl, rfl⟩⟩, fun _ h => by cases h⟩) fun X W ent c => b_is_word n_all n_len n_str n_isinstance c

abbrev s_is_place : Stmt := topS 23
theorem sc_is_place : FnScope ["thing"] ["thing"] (defScope s_is_place) := ⟨rfl, rfl, rfl, by decide +kernel, rfl, by decide +kernel, by decide +kernel⟩
def m_is_place : Sm := sSeq (sRet (wVal (bAnd (eFrz (wCall F_is_word [.str "abcdefghijklmnopqrstuvwxyz", .int 8] [.pos 0, .kw 0, .kw 1] [bVar 0] [bC (.str "0123456789"), bC (.int 8)])) (bNot (bPrim fEndsw [.ex (mChk D.isStr (bVar 0)), .ex (bC (.str "0"))]))))) (sOk .next)
def F_is_place : Fsem := fsem 1 m_is_place
abbrev I_is_place : FnI := ⟨["thing"], F_is_place, [], [(1, [], ar1)]⟩
theorem b_is_place {Z : En} {k : Nat} {X : Cx} {W : WX} {ent : Ent} (a_is_word : FnAt Z.P Z.w Z.K Z.mg Z.base k "is_word" I_is_word)  (g_FIGURES : ∃ u, Z.mg "FIGURES" = some u ∧ RelV (.str "0123456789") u) (g_MOST_FIGURES : ∃ u, Z.mg "MOST_FIGURES" = some u ∧ RelV (.int 8) u)  (c : Dx Z ["thing"] (defScope s_is_place) k X W) : PSs X (defBody s_is_place) (rdS X.gb W ent m_is_place) := by
  have c0 := c.toBx
  exact (semB_cons (semS_ret (semW_val (sem_and (sem_frz (xcall c0 a_is_word (by decide +kernel) (.head _) (opc (ox (xv c0 0 (by decide +kernel))) opn) (.cons (xg c0 (by decide +kernel) g_FIGURES (fun _ _ => .str _)) (.cons (xg c0 (by decide +kernel) g_MOST_FIGURES (fun _ _ => .int _)) .nil)))) (sem_one (sem_not (sem_sm PySem.F.slot_str_endswith PySem.F.type_str_endswith mt_endswith ok_endsw (xv c0 0 (by decide +kernel)) (opc (ox xs) opn))))))) semB_nil)
theorem t_is_place {Z : En} {k : Nat} {fa : Addr} {fd : FuncData} (a_is_word : FnAt Z.P Z.w Z.K Z.mg Z.base k "is_word" I_is_word)  (g_FIGURES : ∃ u, Z.mg "FIGURES" = some u ∧ RelV (.str "0123456789") u) (g_MOST_FIGURES : ∃ u, Z.mg "MOST_FIGURES" = some u ∧ RelV (.int 8) u)  (F : L2.Fun Z.K "is_place" "is_place" s_is_place fa fd) (g : Z.mg "is_place" = some (.ref fa)) : FnAt Z.P Z.w Z.K Z.mg Z.base (k + 1) "is_place" I_is_place :=
  fnAt_fun F g sc_is_place ar1 rfl (fun _ _ _ _ _ _ us h => match us, h with | [_], _ => rfl) (fun us h => match us, h with | [_], _ => rfl) fun X W ent c => b_is_place a_is_word g_FIGURES g_MOST_FIGURES c

abbrev s_next_place : Stmt := topS 25
theorem sc_next_place : FnScope ["low", "size", "number", "word"] ["low", "size"] (defScope s_next_place) := ⟨rfl, rfl, rfl, by decide +kernel, rfl, by decide +kernel, by decide +kernel⟩
def m_next_place : Sm := sSeq (sIf (tBool (bPrim fGt [.sl 1, .ex (bPrim fLen [.sl 0])])) (sSeq (sRet (wPrim fAdd [.ex (bPrim fLjust [.ex (mChk D.isStr (bVar 0)), .ex (bPrim fSub [.sl 1, .ex (bC (.int 1))]), .ex (bC (.str "0"))]), .ex (bC (.str "1"))])) (sOk .next)) (sOk .next)) (sSeq (sSet 2 (wPrim fAdd [.ex (bPrim fIntC [.ex (bPrim fSl01 [.sl 0, mInt (bVar 1)])]), .ex (bC (.int 1))])) (sSeq (sIf (tTru (.ex (bPrim fEndsw [.ex (mChk D.isStr (bPrim fStrC [.sl 2])), .ex (bC (.str "0"))]))) (sSeq (sAug 2 fAdd (bC (.int 1))) (sOk .next)) (sOk .next)) (sSeq (sSet 3 (wVal (bPrim fZfill [.ex (mChk D.isStr (bPrim fStrC [.sl 2])), .sl 1]))) (sSeq (sRet (wIf (tBool (bPrim fEq [.ex (bPrim fLen [.sl 3]), .sl 1])) (wVal (bVar 3)) (wVal (bC .non)))) (sOk .next)))))
def F_next_place : Fsem := fsem 4 m_next_place
abbrev I_next_place : FnI := ⟨["low", "size"], F_next_place, [], [(2, [], ar2)]⟩
theorem b_next_place {Z : En} {k : Nat} {X : Cx} {W : WX} {ent : Ent}  (n_len : Z.mg "len" = none) (n_int : Z.mg "int" = none) (n_str : Z.mg "str" = none)   (c : Dx Z ["low", "size", "number", "word"] (defScope s_next_place) k X W) : PSs X (defBody s_next_place) (rdS X.gb W ent m_next_place) := by
  have c0 := c.toBx
  exact (semB_cons (semS_if (semT_cmp op_gtD ok_ord (ov c0 1 (by decide +kernel)) (ox (sem_bi c0 c_len ok_len (by decide +kernel) n_len (by decide +kernel) (opc (ov c0 0 (by decide +kernel)) opn))) (by rfl)) (semB_cons (semS_ret (semW_bin op_addD fr_add (ox (sem_sm PySem.F.slot_str_ljust PySem.F.type_str_ljust mt_ljustF ok_ljustF (xv c0 0 (by decide +kernel)) (opc (ox (sem_bin (opI0I op_sub) ok_sub (ov c0 1 (by decide +kernel)) (ox xi))) (opc (ox xs) opn)))) (ox xs))) semB_nil) semB_nil) (semB_cons (sset c0 2 (by decide +kernel) (semW_bin op_addD fr_add (ox (sem_bt c0 call_intC ok_intC (by decide +kernel) n_int (by decide +kernel) (opc (ox (sem_sl01 (ov c0 0 (by decide +kernel)) (xv c0 1 (by decide +kernel)))) opn))) (ox xi))) (semB_cons (semS_if (semT_tru (ox (sem_sm PySem.F.slot_str_endswith PySem.F.type_str_endswith mt_endswith ok_endsw (sem_bt c0 call_strC ok_strC (by decide +kernel) n_str (by decide +kernel) (opc (ov c0 2 (by decide +kernel)) opn)) (opc (ox xs) opn))) (fun _ => rfl)) (semB_cons (saugAdd c0 (by decide +kernel) xi) semB_nil) semB_nil) (semB_cons (sset c0 3 (by decide +kernel) (semW_val (sem_sm PySem.F.slot_str_zfill PySem.F.type_str_zfill mt_zfill ok_zfill (sem_bt c0 call_strC ok_strC (by decide +kernel) n_str (by decide +kernel) (opc (ov c0 2 (by decide +kernel)) opn)) (opc (ov c0 1 (by decide +kernel)) opn)))) (semB_cons (semS_ret (semW_if (semT_cmp (op_eqA (hu64 c0)) ok_eq (ox (sem_bi c0 c_len ok_len (by decide +kernel) n_len (by decide +kernel) (opc (ov c0 3 (by decide +kernel)) opn))) (ov c0 1 (by decide +kernel)) (by rfl)) (semW_val (xv c0 3 (by decide +kernel))) (semW_val xn))) semB_nil)))))
theorem t_next_place {Z : En} {k : Nat} {fa : Addr} {fd : FuncData}  (n_len : Z.mg "len" = none) (n_int : Z.mg "int" = none) (n_str : Z.mg "str" = none)   (F : L2.Fun Z.K "next_place" "next_place" s_next_place fa fd) (g : Z.mg "next_place" = some (.ref fa)) : FnAt Z.P Z.w Z.K Z.mg Z.base (k + 1) "next_place" I_next_place :=
  fnAt_fun F g sc_next_place ar2 rfl (fun _ _ _ _ _ _ us h => match us, h with | [_, _], _ => rfl) (fun us h => match us, h with | [_, _], _ => rfl) fun X W ent c => b_next_place n_len n_int n_str c

abbrev s_between : Stmt := topS 26
theorem sc_between : FnScope ["low", "high", "place", "size"] ["low", "high"] (defScope s_between) := ⟨rfl, rfl, rfl, by decide +kernel, rfl, by decide +kernel, by decide +kernel⟩
def m_between_0 : Sm := sSeq (sIf (tAndB (tBool (bPrim fNotN [.sl 2, .ex (bC .non)])) (tNotB (tTru (.ex (eFrz (wCall F_is_place [] ar1 [bVar 2] [])))))) (sSeq (sRaise "BadPlace") (sOk .next)) (sOk .next)) (sOk .next)
def m_between_1 : Sm := sSeq (sSet 2 (wCall F_next_place [] ar2 [bIf (tBool (bPrim fIsN [.sl 0, .ex (bC .non)])) (bC (.str "")) (bVar 0), bVar 3] [])) (sSeq (sIf (tAndB (tBool (bPrim fNotN [.sl 2, .ex (bC .non)])) (tOrB (tBool (bPrim fIsN [.sl 1, .ex (bC .non)])) (tBool (bPrim fLt [.sl 2, .sl 1])))) (sSeq (sRet (wMove 2)) (sOk .next)) (sOk .next)) (sOk .next))
def m_between : Sm := sSeq (sFor (iVal (bTup [bVar 0, bVar 1])) (.nm 2) (m_between_0)) (sSeq (sIf (tAndB (tBool (bPrim fNotN [.sl 0, .ex (bC .non)])) (tAndB (tBool (bPrim fNotN [.sl 1, .ex (bC .non)])) (tBool (bPrim fGe [.sl 0, .sl 1])))) (sSeq (sRaise "BadPlace") (sOk .next)) (sOk .next)) (sSeq (sFor (iRange range2 [.ex (bC (.int 1)), .ex (bPrim fAdd [.ex (bC (.int 8)), .ex (bC (.int 1))])]) (.nm 3) (m_between_1)) (sSeq (sRaise "NoRoom") (sOk .next))))
def F_between : Fsem := fsem 4 m_between
abbrev I_between : FnI := ⟨["low", "high"], F_between, [.non, .non], [(0, ["high", "low"], [.kw 1, .kw 0])]⟩
theorem b_between {Z : En} {k : Nat} {X : Cx} {W : WX} {ent : Ent} (a_is_place : FnAt Z.P Z.w Z.K Z.mg Z.base k "is_place" I_is_place) (a_next_place : FnAt Z.P Z.w Z.K Z.mg Z.base k "next_place" I_next_place) (n_range : Z.mg "range" = none) (g_MOST_FIGURES : ∃ u, Z.mg "MOST_FIGURES" = some u ∧ RelV (.int 8) u) (r_BadPlace : ExK Z "BadPlace") (r_NoRoom : ExK Z "NoRoom") (c : Dx Z ["low", "high", "place", "size"] (defScope s_between) k X W) : PSs X (defBody s_between) (rdS X.gb W ent m_between) := by
  have c0 := c.toBx
  exact (semB_cons (sfor c (semI_val (sem_tup (pa_ops (opc (ox (xv c0 0 (by decide +kernel))) (opc (ox (xv c0 1 (by decide +kernel))) opn))))) (gn c0 2 (by decide +kernel)) tg_nm (semB_cons (semS_if ((semW_and (semT_cmp op_notN ok_notN (ov c0 2 (by decide +kernel)) (ox xn) (by rfl)) (semW_one (semT_not (semT_tru (ox (sem_frz (xcall c0 a_is_place (by decide +kernel) (.head _) (opc (ox (xv c0 2 (by decide +kernel))) opn) .nil))) (fun _ => rfl)))))).pt (semB_cons (sraise c0 (by decide +kernel) r_BadPlace) semB_nil) semB_nil) semB_nil)) (semB_cons (semS_if ((semW_and (semT_cmp op_notN ok_notN (ov c0 0 (by decide +kernel)) (ox xn) (by rfl)) (semW_and (semT_cmp op_notN ok_notN (ov c0 1 (by decide +kernel)) (ox xn) (by rfl)) (semW_one (semT_cmp op_geD ok_ord (ov c0 0 (by decide +kernel)) (ov c0 1 (by decide +kernel)) (by rfl)))))).pt (semB_cons (sraise c0 (by decide +kernel) r_BadPlace) semB_nil) semB_nil) (semB_cons (sfor c (semI_range2 (Gl.of c0 (by decide +kernel)) (mgN c0 n_range) (opc (ox xi) (opc (ox (sem_bin op_addD fr_add.ok (ox (xg c0 (by decide +kernel) g_MOST_FIGURES (fun _ _ => .int _))) (ox xi))) opn)) rfl rfl) (gn c0 3 (by decide +kernel)) tg_nm (semB_cons (sset c0 2 (by decide +kernel) (xcall c0 a_next_place (by decide +kernel) (.head _) (opc (ox (sem_if (semT_cmp op_isN ok_isN (ov c0 0 (by decide +kernel)) (ox xn) (by rfl)) xs (xv c0 0 (by decide +kernel)))) (opc (ox (xv c0 3 (by decide +kernel))) opn)) .nil)) (semB_cons (semS_if ((semW_and (semT_cmp op_notN ok_notN (ov c0 2 (by decide +kernel)) (ox xn) (by rfl)) (semW_one ((semW_or (semT_cmp op_isN ok_isN (ov c0 1 (by decide +kernel)) (ox xn) (by rfl)) (semW_one (semT_cmp op_ltD ok_ord (ov c0 2 (by decide +kernel)) (ov c0 1 (by decide +kernel)) (by rfl))))).pt))).pt (semB_cons (semS_ret (xmove c0 2 (by decide +kernel))) semB_nil) semB_nil) semB_nil))) (semB_cons (sraise c0 (by decide +kernel) r_NoRoom) semB_nil))))
theorem t_between {Z : En} {k : Nat} {fa : Addr} {fd : FuncData} (a_is_place : FnAt Z.P Z.w Z.K Z.mg Z.base k "is_place" I_is_place) (a_next_place : FnAt Z.P Z.w Z.K Z.mg Z.base k "next_place" I_next_place) (n_range : Z.mg "range" = none) (g_MOST_FIGURES : ∃ u, Z.mg "MOST_FIGURES" = some u ∧ RelV (.int 8) u) (r_BadPlace : ExK Z "BadPlace") (r_NoRoom : ExK Z "NoRoom") (F : L2.FunD Z.K "between" "between" (defArgs s_between) (defBody s_between) (defScope s_between) [] [("low", .non), ("high", .non)] fa fd) (g : Z.mg "between" = some (.ref fa)) : FnAt Z.P Z.w Z.K Z.mg Z.base (k + 1) "between" I_between :=
  fnAt_k F g sc_between (List.cons_ne_nil _ _) (fun _ _ => (.cons (.non) (.cons (.non) .nil))) (List.forall_mem_cons.mpr ⟨⟨rfl, fun D _ _ _ _ _ us mv ws h1 h2 h3 => match us, mv, ws, h1, h2, h3 with | [], [_, _], [_, _], _, _, _ => ⟨_, (.cons _ (.cons _ List.Sublist.slnil)), rfl⟩⟩, fun _ h => by cases h⟩) fun X W ent c => b_between a_is_place a_next_place n_range g_MOST_FIGURES r_BadPlace r_NoRoom c

abbrev s__law_begin : Stmt := topS 28
theorem sc__law_begin : FnScope ["script"] ["script"] (defScope s__law_begin) := ⟨rfl, rfl, rfl, by decide +kernel, rfl, by decide +kernel, by decide +kernel⟩
abbrev I__law_begin : FnI := ⟨["script"], F__law_begin, [], [(1, [], ar1)]⟩
theorem b__law_begin {Z : En} {k : Nat} {X : Cx} {W : WX} {ent : Ent}     (c : Dx Z ["script"] (defScope s__law_begin) k X W) : PSs X (defBody s__law_begin) (rdS X.gb W ent m__law_begin) := by
  have c0 := c.toBx
  exact (semB_cons (semS_ret (semW_disp (.cons (fun ent => (sem_bin op_addD fr_add.ok (ov c0 0 (by decide +kernel)) (ox (sem_frz (semW_lst (pa_ops (opc (ox xi) opn))))))) (.cons (fun ent => xi) (.cons (fun ent => xi) (.cons (fun ent => xi) .nil)))) rfl rfl (List.cons_ne_nil _ _) (by decide) rfl (by decide))) semB_nil)
theorem t__law_begin {Z : En} {k : Nat} {fa : Addr} {fd : FuncData}     (F : L2.Fun Z.K "_law_begin" "_law_begin" s__law_begin fa fd) (g : Z.mg "_law_begin" = some (.ref fa)) : FnAt Z.P Z.w Z.K Z.mg Z.base (k + 1) "_law_begin" I__law_begin :=
  fnAt_fun F g sc__law_begin ar1 rfl (fun _ _ _ _ _ _ us h => match us, h with | [_], _ => rfl) (fun us h => match us, h with | [_], _ => rfl) fun X W ent c => b__law_begin  c

abbrev s__law_mixed : Stmt := topS 29
theorem sc__law_mixed : FnScope ["cell", "k", "number"] ["cell", "k"] (defScope s__law_mixed) := ⟨rfl, rfl, rfl, by decide +kernel, rfl, by decide +kernel, by decide +kernel⟩
abbrev I__law_mixed : FnI := ⟨["cell", "k"], F__law_mixed, [], [(2, [], ar2)]⟩
theorem b__law_mixed {Z : En} {k : Nat} {X : Cx} {W : WX} {ent : Ent}     (c : Dx Z ["cell", "k", "number"] (defScope s__law_mixed) k X W) : PSs X (defBody s__law_mixed) (rdS X.gb W ent m__law_mixed) := by
  have c0 := c.toBx
  exact (semB_cons (sset c0 2 (by decide +kernel) (semW_val (sem_bin op_modN ok_mod (ox (sem_bin op_addD fr_add.ok (ox (sem_bin op_addD fr_add.ok (ox (sem_bin op_addD fr_add.ok (ox (sem_bin op_modN ok_mod (ov c0 0 (by decide +kernel)) (ox xi))) (ox (sem_bin op_mulD fr_mul.ok (ox (sem_bin op_mulD fr_mul.ok (ox xi) (ov c0 1 (by decide +kernel)))) (ov c0 1 (by decide +kernel)))))) (ox (sem_bin op_mulD fr_mul.ok (ox xi) (ov c0 1 (by decide +kernel)))))) (ox xi))) (ox xi)))) (semB_cons (sset c0 2 (by decide +kernel) (semW_val (sem_bin op_modN ok_mod (ox (sem_bin op_mulD fr_mul.ok (ox (sem_bin op_modN ok_mod (ox (sem_bin op_mulD fr_mul.ok (ov c0 2 (by decide +kernel)) (ov c0 2 (by decide +kernel)))) (ox xi))) (ov c0 2 (by decide +kernel)))) (ox xi)))) (semB_cons (semS_ret (semW_val (sem_bin op_fdivN ok_fdiv (ox (sem_bin op_modN ok_mod (ox (sem_bin op_mulD fr_mul.ok (ov c0 2 (by decide +kernel)) (ox (sem_bin op_addD fr_add.ok (ox xi) (ox (sem_bin op_mulD fr_mul.ok (ox xi) (ox (sem_bin op_modN ok_mod (ov c0 1 (by decide +kernel)) (ox xi))))))))) (ox xi))) (ox xi)))) semB_nil)))
theorem t__law_mixed {Z : En} {k : Nat} {fa : Addr} {fd : FuncData}     (F : L2.Fun Z.K "_law_mixed" "_law_mixed" s__law_mixed fa fd) (g : Z.mg "_law_mixed" = some (.ref fa)) : FnAt Z.P Z.w Z.K Z.mg Z.base (k + 1) "_law_mixed" I__law_mixed :=
  fnAt_fun F g sc__law_mixed ar2 rfl (fun _ _ _ _ _ _ us h => match us, h with | [_, _], _ => rfl) (fun us h => match us, h with | [_, _], _ => rfl) fun X W ent c => b__law_mixed  c

abbrev s__law_next : Stmt := topS 30
theorem sc__law_next : FnScope ["draw", "many", "cells", "cell", "found"] ["draw", "many"] (defScope s__law_next) := ⟨rfl, rfl, rfl, by decide +kernel, rfl, by decide +kernel, by decide +kernel⟩
abbrev I__law_next : FnI := ⟨["draw", "many"], F__law_next, [], [(2, [], ar2)]⟩
theorem b__law_next {Z : En} {k : Nat} {X : Cx} {W : WX} {ent : Ent} (a__law_mixed : FnAt Z.P Z.w Z.K Z.mg Z.base k "_law_mixed" I__law_mixed) (n_len : Z.mg "len" = none)   (c : Dx Z ["draw", "many", "cells", "cell", "found"] (defScope s__law_next) k X W) : PSs X (defBody s__law_next) (rdS X.gb W ent m__law_next) := by
  have c0 := c.toBx
  exact (semB_cons (semS_if (semT_cmp op_gtD ok_ord (ox (sem_get (hu1 c0) (xv c0 0 (by decide +kernel)) xs)) (ox xi) (by rfl)) (semB_cons (sset c0 4 (by decide +kernel) (semW_val (sem_bin op_modN ok_mod (ox (sem_get (hu1 c0) (xv c0 0 (by decide +kernel)) xs)) (ov c0 1 (by decide +kernel))))) (semB_cons (semS_putD (hu1 c0) (xv c0 0 (by decide +kernel)) xs (sem_bin op_fdivN ok_fdiv (ox (sem_get (hu1 c0) (xv c0 0 (by decide +kernel)) xs)) (ov c0 1 (by decide +kernel))) (by rfl)) (semB_cons (semS_ret (xmove c0 4 (by decide +kernel))) semB_nil))) semB_nil) (semB_cons (sset c0 2 (by decide +kernel) (semW_val (sem_get (hu1 c0) (xv c0 0 (by decide +kernel)) xs))) (semB_cons (sset c0 3 (by decide +kernel) (semW_val (sem_ix (ix_all (hu65 c0)) ok_ix (ov c0 2 (by decide +kernel)) (ox (sem_bin op_modN ok_mod (ox (sem_get (hu1 c0) (xv c0 0 (by decide +kernel)) xs)) (ox (sem_bi c0 c_len ok_len (by decide +kernel) n_len (by decide +kernel) (opc (ov c0 2 (by decide +kernel)) opn))))) (by intro _ _; rfl)))) (semB_cons (semS_putD (hu1 c0) (xv c0 0 (by decide +kernel)) xs (sem_bin op_addD fr_add.ok (ox (sem_get (hu1 c0) (xv c0 0 (by decide +kernel)) xs)) (ox xi)) (by rfl)) (semB_cons (semS_if ((semW_and (semT_cmp op_geD ok_ord (ov c0 3 (by decide +kernel)) (ox (sem_bin op_pow ok_pow (ox xi) (ox xi))) (by rfl)) (semW_one (semT_cmp op_leD ok_ord (ox (sem_get (hu1 c0) (xv c0 0 (by decide +kernel)) xs)) (ox (sem_bi c0 c_len ok_len (by decide +kernel) n_len (by decide +kernel) (opc (ov c0 2 (by decide +kernel)) opn))) (by rfl))))).pt (semB_cons (semS_putD (hu1 c0) (xv c0 0 (by decide +kernel)) xs (sem_bin op_fdivN ok_fdiv (ov c0 3 (by decide +kernel)) (ov c0 1 (by decide +kernel))) (by rfl)) (semB_cons (semS_ret (semW_val (sem_bin op_modN ok_mod (ov c0 3 (by decide +kernel)) (ov c0 1 (by decide +kernel))))) semB_nil)) semB_nil) (semB_cons (semS_putD (hu1 c0) (xv c0 0 (by decide +kernel)) xs (sem_bin op_addD fr_add.ok (ox (sem_get (hu1 c0) (xv c0 0 (by decide +kernel)) xs)) (ox xi)) (by rfl)) (semB_cons (semS_ret (semW_val (sem_bin op_modN ok_mod (ox (sem_frz (xcall c0 a__law_mixed (by decide +kernel) (.head _) (opc (ox (sem_frz (xcall c0 a__law_mixed (by decide +kernel) (.head _) (opc (ox (xv c0 3 (by decide +kernel))) (opc (ox (sem_get (hu1 c0) (xv c0 0 (by decide +kernel)) xs)) opn)) .nil))) (opc (ox (sem_get (hu1 c0) (xv c0 0 (by decide +kernel)) xs)) opn)) .nil))) (ov c0 1 (by decide +kernel))))) semB_nil)))))))
theorem t__law_next {Z : En} {k : Nat} {fa : Addr} {fd : FuncData} (a__law_mixed : FnAt Z.P Z.w Z.K Z.mg Z.base k "_law_mixed" I__law_mixed) (n_len : Z.mg "len" = none)   (F : L2.Fun Z.K "_law_next" "_law_next" s__law_next fa fd) (g : Z.mg "_law_next" = some (.ref fa)) : FnAt Z.P Z.w Z.K Z.mg Z.base (k + 1) "_law_next" I__law_next :=
  fnAt_fun F g sc__law_next ar2 rfl (fun _ _ _ _ _ _ us h => match us, h with | [_, _], _ => rfl) (fun us h => match us, h with | [_, _], _ => rfl) fun X W ent c => b__law_next a__law_mixed n_len c

abbrev s__law_figures : Stmt := topS 31
theorem sc__law_figures : FnScope ["draw", "size", "k"] ["draw", "size"] (defScope s__law_figures) := ⟨rfl, rfl, rfl, by decide +kernel, rfl, by decide +kernel, by decide +kernel⟩
def m__law_figures_0 : Ex := bPrim fIx [.ex (bC (.str "0123456789")), .ex (eFrz (wCall F__law_next [] ar2 [bVar 0, bC (.int 10)] []))]
def m__law_figures : Sm := sSeq (sRet (wVal (bPrim fJoin [.ex (mChk D.isStr (bC (.str ""))), .ex (eFrz (wComp (iRange range1 [.sl 1]) [2] (.nm 2) bTT (m__law_figures_0)))]))) (sOk .next)
def F__law_figures : Fsem := fsem 3 m__law_figures
abbrev I__law_figures : FnI := ⟨["draw", "size"], F__law_figures, [], [(2, [], ar2)]⟩
theorem b__law_figures {Z : En} {k : Nat} {X : Cx} {W : WX} {ent : Ent} (a__law_next : FnAt Z.P Z.w Z.K Z.mg Z.base k "_law_next" I__law_next) (n_range : Z.mg "range" = none)   (c : Dx Z ["draw", "size", "k"] (defScope s__law_figures) k X W) : PSs X (defBody s__law_figures) (rdS X.gb W ent m__law_figures) := by
  have c0 := c.toBx
  exact (semB_cons (semS_ret (semW_val (sem_sm PySem.F.slot_str_join PySem.F.type_str_join mt_join ok_join xs (opc (ox (sem_frz (semW_lc c0 [("k", 2)] (by decide +kernel) (semI_range1 (Gl.of c0 (by decide +kernel)) (mgN c0 n_range) (opc (ov c0 1 (by decide +kernel)) opn) rfl) tg_nm rfl fun s1 H1 C1 cl1 fp1 c1 => ⟨(gn c1 2 (by decide +kernel)), .nil, fun ent => (sem_ix (ix_all (hu65 c1)) ok_ix (ox xs) (ox (sem_frz (xcall c1 a__law_next (by decide +kernel) (.head _) (opc (ox (xv c1 0 (by decide +kernel))) (opc (ox xi) opn)) .nil))) (by intro _ _; rfl))⟩))) opn)))) semB_nil)
theorem t__law_figures {Z : En} {k : Nat} {fa : Addr} {fd : FuncData} (a__law_next : FnAt Z.P Z.w Z.K Z.mg Z.base k "_law_next" I__law_next) (n_range : Z.mg "range" = none)   (F : L2.Fun Z.K "_law_figures" "_law_figures" s__law_figures fa fd) (g : Z.mg "_law_figures" = some (.ref fa)) : FnAt Z.P Z.w Z.K Z.mg Z.base (k + 1) "_law_figures" I__law_figures :=
  fnAt_fun F g sc__law_figures ar2 rfl (fun _ _ _ _ _ _ us h => match us, h with | [_, _], _ => rfl) (fun us h => match us, h with | [_, _], _ => rfl) fun X W ent c => b__law_figures a__law_next n_range c

abbrev s__law_place : Stmt := topS 32
theorem sc__law_place : FnScope ["draw", "size", "last"] ["draw"] (defScope s__law_place) := ⟨rfl, rfl, rfl, by decide +kernel, rfl, by decide +kernel, by decide +kernel⟩
def m__law_place : Sm := sSeq (sSet 1 (wVal (bPrim fIx [.ex (eFrz (wLst [bC (.int 1), bC (.int 2), bC (.int 7), bC (.int 8), bPrim fAdd [.ex (bC (.int 1)), .ex (eFrz (wCall F__law_next [] ar2 [bVar 0, bC (.int 8)] []))]])), .ex (eFrz (wCall F__law_next [] ar2 [bVar 0, bC (.int 5)] []))]))) (sSeq (sSet 2 (wVal (bPrim fIx [.ex (eFrz (wLst [bC (.str "1"), bC (.str "9"), bPrim fIx [.ex (bC (.str "123456789")), .ex (eFrz (wCall F__law_next [] ar2 [bVar 0, bC (.int 9)] []))]])), .ex (eFrz (wCall F__law_next [] ar2 [bVar 0, bC (.int 3)] []))]))) (sSeq (sRet (wPrim fAdd [.ex (bPrim fIx [.ex (eFrz (wLst [eFrz (wCall F__law_figures [] ar2 [bVar 0, bPrim fSub [.sl 1, .ex (bC (.int 1))]] []), bPrim fMul [.ex (bC (.str "0")), .ex (bPrim fSub [.sl 1, .ex (bC (.int 1))])], bPrim fMul [.ex (bC (.str "9")), .ex (bPrim fSub [.sl 1, .ex (bC (.int 1))])]])), .ex (eFrz (wCall F__law_next [] ar2 [bVar 0, bC (.int 3)] []))]), .sl 2])) (sOk .next)))
def F__law_place : Fsem := fsem 3 m__law_place
abbrev I__law_place : FnI := ⟨["draw"], F__law_place, [], [(1, [], ar1)]⟩
theorem b__law_place {Z : En} {k : Nat} {X : Cx} {W : WX} {ent : Ent} (a__law_next : FnAt Z.P Z.w Z.K Z.mg Z.base k "_law_next" I__law_next) (a__law_figures : FnAt Z.P Z.w Z.K Z.mg Z.base k "_law_figures" I__law_figures)    (c : Dx Z ["draw", "size", "last"] (defScope s__law_place) k X W) : PSs X (defBody s__law_place) (rdS X.gb W ent m__law_place) := by
  have c0 := c.toBx
  exact (semB_cons (sset c0 1 (by decide +kernel) (semW_val (sem_ix (ix_all (hu65 c0)) ok_ix (ox (sem_frz (semW_lst (pa_ops (opc (ox xi) (opc (ox xi) (opc (ox xi) (opc (ox xi) (opc (ox (sem_bin op_addD fr_add.ok (ox xi) (ox (sem_frz (xcall c0 a__law_next (by decide +kernel) (.head _) (opc (ox (xv c0 0 (by decide +kernel))) (opc (ox xi) opn)) .nil))))) opn))))))))) (ox (sem_frz (xcall c0 a__law_next (by decide +kernel) (.head _) (opc (ox (xv c0 0 (by decide +kernel))) (opc (ox xi) opn)) .nil))) (by intro _ _; rfl)))) (semB_cons (sset c0 2 (by decide +kernel) (semW_val (sem_ix (ix_all (hu65 c0)) ok_ix (ox (sem_frz (semW_lst (pa_ops (opc (ox xs) (opc (ox xs) (opc (ox (sem_ix (ix_all (hu65 c0)) ok_ix (ox xs) (ox (sem_frz (xcall c0 a__law_next (by decide +kernel) (.head _) (opc (ox (xv c0 0 (by decide +kernel))) (opc (ox xi) opn)) .nil))) (by intro _ _; rfl))) opn))))))) (ox (sem_frz (xcall c0 a__law_next (by decide +kernel) (.head _) (opc (ox (xv c0 0 (by decide +kernel))) (opc (ox xi) opn)) .nil))) (by intro _ _; rfl)))) (semB_cons (semS_ret (semW_bin op_addD fr_add (ox (sem_ix (ix_all (hu65 c0)) ok_ix (ox (sem_frz (semW_lst (pa_ops (opc (ox (sem_frz (xcall c0 a__law_figures (by decide +kernel) (.head _) (opc (ox (xv c0 0 (by decide +kernel))) (opc (ox (sem_bin (opI0I op_sub) ok_sub (ov c0 1 (by decide +kernel)) (ox xi))) opn)) .nil))) (opc (ox (sem_bin op_mulD fr_mul.ok (ox xs) (ox (sem_bin (opI0I op_sub) ok_sub (ov c0 1 (by decide +kernel)) (ox xi))))) (opc (ox (sem_bin op_mulD fr_mul.ok (ox xs) (ox (sem_bin (opI0I op_sub) ok_sub (ov c0 1 (by decide +kernel)) (ox xi))))) opn))))))) (ox (sem_frz (xcall c0 a__law_next (by decide +kernel) (.head _) (opc (ox (xv c0 0 (by decide +kernel))) (opc (ox xi) opn)) .nil))) (by intro _ _; rfl))) (ov c0 2 (by decide +kernel)))) semB_nil)))
theorem t__law_place {Z : En} {k : Nat} {fa : Addr} {fd : FuncData} (a__law_next : FnAt Z.P Z.w Z.K Z.mg Z.base k "_law_next" I__law_next) (a__law_figures : FnAt Z.P Z.w Z.K Z.mg Z.base k "_law_figures" I__law_figures)    (F : L2.Fun Z.K "_law_place" "_law_place" s__law_place fa fd) (g : Z.mg "_law_place" = some (.ref fa)) : FnAt Z.P Z.w Z.K Z.mg Z.base (k + 1) "_law_place" I__law_place :=
  fnAt_fun F g sc__law_place ar1 rfl (fun _ _ _ _ _ _ us h => match us, h with | [_], _ => rfl) (fun us h => match us, h with | [_], _ => rfl) fun X W ent c => b__law_place a__law_next a__law_figures c

abbrev s__law_near : Stmt := topS 33
theorem sc__law_near : FnScope ["draw", "word", "way", "ahead"] ["draw", "word"] (defScope s__law_near) := ⟨rfl, rfl, rfl, by decide +kernel, rfl, by decide +kernel, by decide +kernel⟩
def m__law_near : Sm := sSeq (sSet 2 (wCall F__law_next [] ar2 [bVar 0, bC (.int 5)] [])) (sSeq (sIf (tBool (bPrim fEq [.sl 2, .ex (bC (.int 0))])) (sSeq (sRet (wCall F__law_place [] ar1 [bVar 0] [])) (sOk .next)) (sOk .next)) (sSeq (sIf (tAndB (tBool (bPrim fEq [.sl 2, .ex (bC (.int 1))])) (tBool (bPrim fLt [.ex (bPrim fLen [.sl 1]), .ex (bC (.int 8))]))) (sSeq (sRet (wPrim fAdd [.ex (bPrim fAdd [.sl 1, .ex (bPrim fMul [.ex (bC (.str "0")), .ex (eFrz (wCall F__law_next [] ar2 [bVar 0, bPrim fSub [.ex (bC (.int 8)), .ex (bPrim fLen [.sl 1])]] []))])]), .ex (bC (.str "1"))])) (sOk .next)) (sOk .next)) (sSeq (sIf (tAndB (tBool (bPrim fEq [.sl 2, .ex (bC (.int 2))])) (tBool (bPrim fLt [.ex (bPrim fIx [.sl 1, .ex (bPrim negF [.ex (bC (.int 1))])]), .ex (bC (.str "9"))]))) (sSeq (sRet (wPrim fAdd [.ex (bPrim fSl01 [.sl 1, mInt (bPrim negF [.ex (bC (.int 1))])]), .ex (bPrim fIx [.ex (bC (.str "123456789")), .ex (bPrim fSindex [.ex (mChk D.isStr (bC (.str "0123456789"))), .ex (bPrim fIx [.sl 1, .ex (bPrim negF [.ex (bC (.int 1))])])])])])) (sOk .next)) (sOk .next)) (sSeq (sSet 3 (wVal (bPrim fSl01 [.sl 1, mInt (bPrim fAdd [.ex (bC (.int 1)), .ex (eFrz (wCall F__law_next [] ar2 [bVar 0, bPrim fLen [.sl 1]] []))])]))) (sSeq (sRet (wIf (tBool (bPrim fNe [.ex (bPrim fIx [.sl 3, .ex (bPrim negF [.ex (bC (.int 1))])]), .ex (bC (.str "0"))])) (wVal (bVar 3)) (wIf (tBool (bPrim fLt [.ex (bPrim fLen [.sl 3]), .ex (bC (.int 8))])) (wPrim fAdd [.sl 3, .ex (bC (.str "1"))]) (wVal (bVar 1))))) (sOk .next))))))
def F__law_near : Fsem := fsem 4 m__law_near
abbrev I__law_near : FnI := ⟨["draw", "word"], F__law_near, [], [(2, [], ar2)]⟩
theorem b__law_near {Z : En} {k : Nat} {X : Cx} {W : WX} {ent : Ent} (a__law_next : FnAt Z.P Z.w Z.K Z.mg Z.base k "_law_next" I__law_next) (a__law_place : FnAt Z.P Z.w Z.K Z.mg Z.base k "_law_place" I__law_place) (n_len : Z.mg "len" = none)   (c : Dx Z ["draw", "word", "way", "ahead"] (defScope s__law_near) k X W) : PSs X (defBody s__law_near) (rdS X.gb W ent m__law_near) := by
  have c0 := c.toBx
  exact (semB_cons (sset c0 2 (by decide +kernel) (xcall c0 a__law_next (by decide +kernel) (.head _) (opc (ox (xv c0 0 (by decide +kernel))) (opc (ox xi) opn)) .nil)) (semB_cons (semS_if (semT_cmp (op_eqA (hu64 c0)) ok_eq (ov c0 2 (by decide +kernel)) (ox xi) (by rfl)) (semB_cons (semS_ret (xcall c0 a__law_place (by decide +kernel) (.head _) (opc (ox (xv c0 0 (by decide +kernel))) opn) .nil)) semB_nil) semB_nil) (semB_cons (semS_if ((semW_and (semT_cmp (op_eqA (hu64 c0)) ok_eq (ov c0 2 (by decide +kernel)) (ox xi) (by rfl)) (semW_one (semT_cmp op_ltD ok_ord (ox (sem_bi c0 c_len ok_len (by decide +kernel) n_len (by decide +kernel) (opc (ov c0 1 (by decide +kernel)) opn))) (ox xi) (by rfl))))).pt (semB_cons (semS_ret (semW_bin op_addD fr_add (ox (sem_bin op_addD fr_add.ok (ov c0 1 (by decide +kernel)) (ox (sem_bin op_mulD fr_mul.ok (ox xs) (ox (sem_frz (xcall c0 a__law_next (by decide +kernel) (.head _) (opc (ox (xv c0 0 (by decide +kernel))) (opc (ox (sem_bin (opI0I op_sub) ok_sub (ox xi) (ox (sem_bi c0 c_len ok_len (by decide +kernel) n_len (by decide +kernel) (opc (ov c0 1 (by decide +kernel)) opn))))) opn)) .nil))))))) (ox xs))) semB_nil) semB_nil) (semB_cons (semS_if ((semW_and (semT_cmp (op_eqA (hu64 c0)) ok_eq (ov c0 2 (by decide +kernel)) (ox xi) (by rfl)) (semW_one (semT_cmp op_ltD ok_ord (ox (sem_ix (ix_all (hu65 c0)) ok_ix (ov c0 1 (by decide +kernel)) (ox (sem_un un_neg ok_neg (ox xi))) (by intro _ _; rfl))) (ox xs) (by rfl))))).pt (semB_cons (semS_ret (semW_bin op_addD fr_add (ox (sem_sl01 (ov c0 1 (by decide +kernel)) (sem_un un_neg ok_neg (ox xi)))) (ox (sem_ix (ix_all (hu65 c0)) ok_ix (ox xs) (ox (sem_sm PySem.F.slot_str_index PySem.F.type_str_index mt_sindex ok_sindex xs (opc (ox (sem_ix (ix_all (hu65 c0)) ok_ix (ov c0 1 (by decide +kernel)) (ox (sem_un un_neg ok_neg (ox xi))) (by intro _ _; rfl))) opn))) (by intro _ _; rfl))))) semB_nil) semB_nil) (semB_cons (sset c0 3 (by decide +kernel) (semW_val (sem_sl01 (ov c0 1 (by decide +kernel)) (sem_bin op_addD fr_add.ok (ox xi) (ox (sem_frz (xcall c0 a__law_next (by decide +kernel) (.head _) (opc (ox (xv c0 0 (by decide +kernel))) (opc (ox (sem_bi c0 c_len ok_len (by decide +kernel) n_len (by decide +kernel) (opc (ov c0 1 (by decide +kernel)) opn))) opn)) .nil))))))) (semB_cons (semS_ret (semW_if (semT_cmp (op_neA (hu64 c0)) ok_ne (ox (sem_ix (ix_all (hu65 c0)) ok_ix (ov c0 3 (by decide +kernel)) (ox (sem_un un_neg ok_neg (ox xi))) (by intro _ _; rfl))) (ox xs) (by rfl)) (semW_val (xv c0 3 (by decide +kernel))) (semW_if (semT_cmp op_ltD ok_ord (ox (sem_bi c0 c_len ok_len (by decide +kernel) n_len (by decide +kernel) (opc (ov c0 3 (by decide +kernel)) opn))) (ox xi) (by rfl)) (semW_bin op_addD fr_add (ov c0 3 (by decide +kernel)) (ox xs)) (semW_val (xv c0 1 (by decide +kernel)))))) semB_nil))))))
theorem t__law_near {Z : En} {k : Nat} {fa : Addr} {fd : FuncData} (a__law_next : FnAt Z.P Z.w Z.K Z.mg Z.base k "_law_next" I__law_next) (a__law_place : FnAt Z.P Z.w Z.K Z.mg Z.base k "_law_place" I__law_place) (n_len : Z.mg "len" = none)   (F : L2.Fun Z.K "_law_near" "_law_near" s__law_near fa fd) (g : Z.mg "_law_near" = some (.ref fa)) : FnAt Z.P Z.w Z.K Z.mg Z.base (k + 1) "_law_near" I__law_near :=
  fnAt_fun F g sc__law_near ar2 rfl (fun _ _ _ _ _ _ us h => match us, h with | [_, _], _ => rfl) (fun us h => match us, h with | [_, _], _ => rfl) fun X W ent c => b__law_near a__law_next a__law_place n_len c

abbrev s__law_number : Stmt := topS 34
theorem sc__law_number : FnScope ["word", "size", "found", "k"] ["word", "size"] (defScope s__law_number) := ⟨rfl, rfl, rfl, by decide +kernel, rfl, by decide +kernel, by decide +kernel⟩
def m__law_number_0 : Sm := sSeq (sSet 2 (wPrim fAdd [.ex (bPrim fMul [.ex (bC (.int 10)), .sl 2]), .ex (bIf (tBool (bPrim fLt [.sl 3, .ex (bPrim fLen [.sl 0])])) (bPrim fSindex [.ex (mChk D.isStr (bC (.str "0123456789"))), .ex (bPrim fIx [.sl 0, .sl 3])]) (bC (.int 0)))])) (sOk .next)
def m__law_number : Sm := sSeq (sSet 2 (wVal (bC (.int 0)))) (sSeq (sFor (iRange range1 [.sl 1]) (.nm 3) (m__law_number_0)) (sSeq (sRet (wMove 2)) (sOk .next)))
def F__law_number : Fsem := fsem 4 m__law_number
abbrev I__law_number : FnI := ⟨["word", "size"], F__law_number, [], [(2, [], ar2)]⟩
theorem b__law_number {Z : En} {k : Nat} {X : Cx} {W : WX} {ent : Ent}  (n_range : Z.mg "range" = none) (n_len : Z.mg "len" = none)   (c : Dx Z ["word", "size", "found", "k"] (defScope s__law_number) k X W) : PSs X (defBody s__law_number) (rdS X.gb W ent m__law_number) := by
  have c0 := c.toBx
  exact (semB_cons (sset c0 2 (by decide +kernel) (semW_val xi)) (semB_cons (sfor c (semI_range1 (Gl.of c0 (by decide +kernel)) (mgN c0 n_range) (opc (ov c0 1 (by decide +kernel)) opn) rfl) (gn c0 3 (by decide +kernel)) tg_nm (semB_cons (sset c0 2 (by decide +kernel) (semW_bin op_addD fr_add (ox (sem_bin op_mulD fr_mul.ok (ox xi) (ov c0 2 (by decide +kernel)))) (ox (sem_if (semT_cmp op_ltD ok_ord (ov c0 3 (by decide +kernel)) (ox (sem_bi c0 c_len ok_len (by decide +kernel) n_len (by decide +kernel) (opc (ov c0 0 (by decide +kernel)) opn))) (by rfl)) (sem_sm PySem.F.slot_str_index PySem.F.type_str_index mt_sindex ok_sindex xs (opc (ox (sem_ix (ix_all (hu65 c0)) ok_ix (ov c0 0 (by decide +kernel)) (ov c0 3 (by decide +kernel)) (by intro _ _; rfl))) opn)) xi)))) semB_nil)) (semB_cons (semS_ret (xmove c0 2 (by decide +kernel))) semB_nil)))
theorem t__law_number {Z : En} {k : Nat} {fa : Addr} {fd : FuncData}  (n_range : Z.mg "range" = none) (n_len : Z.mg "len" = none)   (F : L2.Fun Z.K "_law_number" "_law_number" s__law_number fa fd) (g : Z.mg "_law_number" = some (.ref fa)) : FnAt Z.P Z.w Z.K Z.mg Z.base (k + 1) "_law_number" I__law_number :=
  fnAt_fun F g sc__law_number ar2 rfl (fun _ _ _ _ _ _ us h => match us, h with | [_, _], _ => rfl) (fun us h => match us, h with | [_, _], _ => rfl) fun X W ent c => b__law_number n_range n_len c

abbrev s__law_fitting : Stmt := topS 35
theorem sc__law_fitting : FnScope ["under", "over", "size", "first", "top"] ["under", "over", "size"] (defScope s__law_fitting) := ⟨rfl, rfl, rfl, by decide +kernel, rfl, by decide +kernel, by decide +kernel⟩
def m__law_fitting : Sm := sSeq (sSet 3 (wIf (tBool (bPrim fIsN [.sl 0, .ex (bC .non)])) (wVal (bC (.int 1))) (wPrim fAdd [.ex (eFrz (wCall F__law_number [] ar2 [bVar 0, bVar 2] [])), .ex (bC (.int 1))]))) (sSeq (sIf (tBool (bPrim fEq [.ex (bPrim fMod [.sl 3, .ex (bC (.int 10))]), .ex (bC (.int 0))])) (sSeq (sSet 3 (wPrim fAdd [.sl 3, .ex (bC (.int 1))])) (sOk .next)) (sOk .next)) (sSeq (sSet 4 (wVal (bPrim fIntC [.ex (bPrim fMul [.ex (bC (.str "9")), .sl 2])]))) (sSeq (sIf (tBool (bPrim fNotN [.sl 1, .ex (bC .non)])) (sSeq (sSet 4 (wVal (bPrim fSub [.ex (eFrz (wCall F__law_number [] ar2 [bVar 1, bVar 2] [])), .ex (bPrim fIntC [.ex (bPrim fLe [.ex (bPrim fLen [.sl 1]), .sl 2])])]))) (sOk .next)) (sOk .next)) (sSeq (sRet (wIf (tBool (bPrim fLe [.sl 3, .sl 4])) (wVal (bVar 3)) (wVal (bPrim fSub [.ex (bC (.int 0)), .ex (bC (.int 1))])))) (sOk .next)))))
def F__law_fitting : Fsem := fsem 5 m__law_fitting
abbrev I__law_fitting : FnI := ⟨["under", "over", "size"], F__law_fitting, [], [(3, [], ar3)]⟩
theorem b__law_fitting {Z : En} {k : Nat} {X : Cx} {W : WX} {ent : Ent} (a__law_number : FnAt Z.P Z.w Z.K Z.mg Z.base k "_law_number" I__law_number) (n_int : Z.mg "int" = none) (n_len : Z.mg "len" = none)   (c : Dx Z ["under", "over", "size", "first", "top"] (defScope s__law_fitting) k X W) : PSs X (defBody s__law_fitting) (rdS X.gb W ent m__law_fitting) := by
  have c0 := c.toBx
  exact (semB_cons (sset c0 3 (by decide +kernel) (semW_if (semT_cmp op_isN ok_isN (ov c0 0 (by decide +kernel)) (ox xn) (by rfl)) (semW_val xi) (semW_bin op_addD fr_add (ox (sem_frz (xcall c0 a__law_number (by decide +kernel) (.head _) (opc (ox (xv c0 0 (by decide +kernel))) (opc (ox (xv c0 2 (by decide +kernel))) opn)) .nil))) (ox xi)))) (semB_cons (semS_if (semT_cmp (op_eqA (hu64 c0)) ok_eq (ox (sem_bin op_modN ok_mod (ov c0 3 (by decide +kernel)) (ox xi))) (ox xi) (by rfl)) (semB_cons (sset c0 3 (by decide +kernel) (semW_bin op_addD fr_add (ov c0 3 (by decide +kernel)) (ox xi))) semB_nil) semB_nil) (semB_cons (sset c0 4 (by decide +kernel) (semW_val (sem_bt c0 call_intC ok_intC (by decide +kernel) n_int (by decide +kernel) (opc (ox (sem_bin op_mulD fr_mul.ok (ox xs) (ov c0 2 (by decide +kernel)))) opn)))) (semB_cons (semS_if (semT_cmp op_notN ok_notN (ov c0 1 (by decide +kernel)) (ox xn) (by rfl)) (semB_cons (sset c0 4 (by decide +kernel) (semW_val (sem_bin (opI0I op_sub) ok_sub (ox (sem_frz (xcall c0 a__law_number (by decide +kernel) (.head _) (opc (ox (xv c0 1 (by decide +kernel))) (opc (ox (xv c0 2 (by decide +kernel))) opn)) .nil))) (ox (sem_bt c0 call_intC ok_intC (by decide +kernel) n_int (by decide +kernel) (opc (ox (sem_cmp op_leD ok_ord (ox (sem_bi c0 c_len ok_len (by decide +kernel) n_len (by decide +kernel) (opc (ov c0 1 (by decide +kernel)) opn))) (ov c0 2 (by decide +kernel)) (by rfl))) opn)))))) semB_nil) semB_nil) (semB_cons (semS_ret (semW_if (semT_cmp op_leD ok_ord (ov c0 3 (by decide +kernel)) (ov c0 4 (by decide +kernel)) (by rfl)) (semW_val (xv c0 3 (by decide +kernel))) (semW_val (sem_bin (opI0I op_sub) ok_sub (ox xi) (ox xi))))) semB_nil)))))
theorem t__law_fitting {Z : En} {k : Nat} {fa : Addr} {fd : FuncData} (a__law_number : FnAt Z.P Z.w Z.K Z.mg Z.base k "_law_number" I__law_number) (n_int : Z.mg "int" = none) (n_len : Z.mg "len" = none)   (F : L2.Fun Z.K "_law_fitting" "_law_fitting" s__law_fitting fa fd) (g : Z.mg "_law_fitting" = some (.ref fa)) : FnAt Z.P Z.w Z.K Z.mg Z.base (k + 1) "_law_fitting" I__law_fitting :=
  fnAt_fun F g sc__law_fitting ar3 rfl (fun _ _ _ _ _ _ us h => match us, h with | [_, _, _], _ => rfl) (fun us h => match us, h with | [_, _, _], _ => rfl) fun X W ent c => b__law_fitting a__law_number n_int n_len c

abbrev s__law_due : Stmt := topS 36
theorem sc__law_due : FnScope ["under", "over", "size", "number", "figures"] ["under", "over"] (defScope s__law_due) := ⟨rfl, rfl, rfl, by decide +kernel, rfl, by decide +kernel, by decide +kernel⟩
def m__law_due_0 : Sm := sSeq (sSet 3 (wCall F__law_fitting [] ar3 [bVar 0, bVar 1, bVar 2] [])) (sSeq (sIf (tBool (bPrim fGe [.sl 3, .ex (bC (.int 0))])) (sSeq (sSet 4 (wVal (bPrim fStrC [.sl 3]))) (sSeq (sRet (wPrim fAdd [.ex (bPrim fMul [.ex (bC (.str "0")), .ex (bPrim fSub [.sl 2, .ex (bPrim fLen [.sl 4])])]), .sl 4])) (sOk .next))) (sOk .next)) (sOk .next))
def m__law_due : Sm := sSeq (sFor (iRange range2 [.ex (bC (.int 1)), .ex (bC (.int 9))]) (.nm 2) (m__law_due_0)) (sSeq (sRet (wVal (bC (.str "no room")))) (sOk .next))
def F__law_due : Fsem := fsem 5 m__law_due
abbrev I__law_due : FnI := ⟨["under", "over"], F__law_due, [], [(2, [], ar2)]⟩
theorem b__law_due {Z : En} {k : Nat} {X : Cx} {W : WX} {ent : Ent} (a__law_fitting : FnAt Z.P Z.w Z.K Z.mg Z.base k "_law_fitting" I__law_fitting) (n_range : Z.mg "range" = none) (n_str : Z.mg "str" = none) (n_len : Z.mg "len" = none)   (c : Dx Z ["under", "over", "size", "number", "figures"] (defScope s__law_due) k X W) : PSs X (defBody s__law_due) (rdS X.gb W ent m__law_due) := by
  have c0 := c.toBx
  exact (semB_cons (sfor c (semI_range2 (Gl.of c0 (by decide +kernel)) (mgN c0 n_range) (opc (ox xi) (opc (ox xi) opn)) rfl rfl) (gn c0 2 (by decide +kernel)) tg_nm (semB_cons (sset c0 3 (by decide +kernel) (xcall c0 a__law_fitting (by decide +kernel) (.head _) (opc (ox (xv c0 0 (by decide +kernel))) (opc (ox (xv c0 1 (by decide +kernel))) (opc (ox (xv c0 2 (by decide +kernel))) opn))) .nil)) (semB_cons (semS_if (semT_cmp op_geD ok_ord (ov c0 3 (by decide +kernel)) (ox xi) (by rfl)) (semB_cons (sset c0 4 (by decide +kernel) (semW_val (sem_bt c0 call_strC ok_strC (by decide +kernel) n_str (by decide +kernel) (opc (ov c0 3 (by decide +kernel)) opn)))) (semB_cons (semS_ret (semW_bin op_addD fr_add (ox (sem_bin op_mulD fr_mul.ok (ox xs) (ox (sem_bin (opI0I op_sub) ok_sub (ov c0 2 (by decide +kernel)) (ox (sem_bi c0 c_len ok_len (by decide +kernel) n_len (by decide +kernel) (opc (ov c0 4 (by decide +kernel)) opn))))))) (ov c0 4 (by decide +kernel)))) semB_nil)) semB_nil) semB_nil))) (semB_cons (semS_ret (semW_val xs)) semB_nil))
theorem t__law_due {Z : En} {k : Nat} {fa : Addr} {fd : FuncData} (a__law_fitting : FnAt Z.P Z.w Z.K Z.mg Z.base k "_law_fitting" I__law_fitting) (n_range : Z.mg "range" = none) (n_str : Z.mg "str" = none) (n_len : Z.mg "len" = none)   (F : L2.Fun Z.K "_law_due" "_law_due" s__law_due fa fd) (g : Z.mg "_law_due" = some (.ref fa)) : FnAt Z.P Z.w Z.K Z.mg Z.base (k + 1) "_law_due" I__law_due :=
  fnAt_fun F g sc__law_due ar2 rfl (fun _ _ _ _ _ _ us h => match us, h with | [_, _], _ => rfl) (fun us h => match us, h with | [_, _], _ => rfl) fun X W ent c => b__law_due a__law_fitting n_range n_str n_len c

abbrev s__law_said : Stmt := topS 37
theorem sc__law_said : FnScope ["under", "over", "e", "found", "error"] ["under", "over"] (defScope s__law_said) := ⟨rfl, rfl, rfl, by decide +kernel, rfl, by decide +kernel, by decide +kernel⟩
def m__law_said : Sm := sSeq (sSet 2 (wVal (bC .non))) (sSeq (sSet 3 (wVal (bC .non))) (sSeq (sTry (sSeq (sSet 3 (wCall F_between [.non, .non] [.kw 1, .kw 0] [] [bVar 1, bVar 0])) (sOk .next)) [⟨[("BadPlace", true), ("NoRoom", true)], (some 4), sSeq (sSet 2 (wVal (bVar 4))) (sOk .next)⟩]) (sSeq (sIf (tBool (bPrim fIsN [.sl 2, .ex (bC .non)])) (sSeq (sRet (wIf (tTru (.ex (bPrim fIsi [.sl 3, .ex (bC (.ty "str"))]))) (wVal (bVar 3)) (wVal (bC (.str "more"))))) (sOk .next)) (sOk .next)) (sSeq (sIf (tTru (.ex (bPrim (fIsx [("BadPlace", false), ("NoRoom", false)]) [.sl 2]))) (sSeq (sRet (wVal (bC (.str "other")))) (sOk .next)) (sOk .next)) (sSeq (sIf (tTru (.ex (bPrim (fIsx [("BadPlace", false), ("NoRoom", false)]) [.sl 2]))) (sSeq (sRet (wVal (bC (.str "other")))) (sOk .next)) (sOk .next)) (sSeq (sRet (wPrim fAdd [.ex (bPrim fIx [.ex (eFrz (wLst [bC (.str ""), bC (.str "bad")])), .ex (bPrim fIntC [.ex (bPrim (fIsx [("BadPlace", true), ("NoRoom", false)]) [.sl 2])])]), .ex (bPrim fIx [.ex (eFrz (wLst [bC (.str ""), bC (.str "no room")])), .ex (bPrim fIntC [.ex (bPrim (fIsx [("BadPlace", false), ("NoRoom", true)]) [.sl 2])])])])) (sOk .next)))))))
def F__law_said : Fsem := fsem 5 m__law_said
abbrev I__law_said : FnI := ⟨["under", "over"], F__law_said, [], [(2, [], ar2)]⟩
theorem b__law_said {Z : En} {k : Nat} {X : Cx} {W : WX} {ent : Ent} (a_between : FnAt Z.P Z.w Z.K Z.mg Z.base k "between" I_between) (n_str : Z.mg "str" = none) (n_isinstance : Z.mg "isinstance" = none) (n_int : Z.mg "int" = none)  (tk_MergeError_Refused : TabK Z ["MergeError", "Refused"] [("BadPlace", true), ("NoRoom", true)]) (ti_BadChoice_BadDeeds_BadDocument_BadLine_BadLines_BadName_BadOutcome_BadSides_BadText : TabI Z ["BadChoice", "BadDeeds", "BadDocument", "BadLine", "BadLines", "BadName", "BadOutcome", "BadSides", "BadText"] [("BadPlace", false), ("NoRoom", false)]) (ti_Busy_Faulty_NothingUnderWay : TabI Z ["Busy", "Faulty", "NothingUnderWay"] [("BadPlace", false), ("NoRoom", false)]) (ti_BadPlace : TabI Z ["BadPlace"] [("BadPlace", true), ("NoRoom", false)]) (ti_NoRoom : TabI Z ["NoRoom"] [("BadPlace", false), ("NoRoom", true)]) (c : Dx Z ["under", "over", "e", "found", "error"] (defScope s__law_said) k X W) : PSs X (defBody s__law_said) (rdS X.gb W ent m__law_said) := by
  have c0 := c.toBx
  exact (semB_cons (sset c0 2 (by decide +kernel) (semW_val xn)) (semB_cons (sset c0 3 (by decide +kernel) (semW_val xn)) (semB_cons (stry c (fun c => have c0 := c.toBx; (semB_cons (sset c0 3 (by decide +kernel) (xcall c0 a_between (by decide +kernel) (.head _) opn (.cons (xv c0 1 (by decide +kernel)) (.cons (xv c0 0 (by decide +kernel)) .nil)))) semB_nil)) (has c (tst2 c0 (by decide +kernel) tk_MergeError_Refused) (by decide +kernel) (fun c => (semB_cons (zset c 2 (by decide +kernel) (semW_val (zv c 4 (by decide +kernel)))) semB_nil)) hnil)) (semB_cons (semS_if (semT_cmp op_isN ok_isN (ov c0 2 (by decide +kernel)) (ox xn) (by rfl)) (semB_cons (semS_ret (semW_if (semT_tru (ox (sem_bi c0 call_isi ok_isi (by decide +kernel) n_isinstance (by decide +kernel) (opc (ov c0 3 (by decide +kernel)) (opc (ox (xty c0 (by decide +kernel) n_str (by decide +kernel))) opn)))) (fun _ => rfl)) (semW_val (xv c0 3 (by decide +kernel))) (semW_val xs))) semB_nil) semB_nil) (semB_cons (semS_if (semT_tru (ox (sem_isx c0 (by decide +kernel) n_isinstance (ov c0 2 (by decide +kernel)) ti_BadChoice_BadDeeds_BadDocument_BadLine_BadLines_BadName_BadOutcome_BadSides_BadText (fun us h1 h2 => pe_clss c0 (.cons (by decide +kernel) (.cons (by decide +kernel) (.cons (by decide +kernel) (.cons (by decide +kernel) (.cons (by decide +kernel) (.cons (by decide +kernel) (.cons (by decide +kernel) (.cons (by decide +kernel) (.cons (by decide +kernel) ClsEs.nil))))))))) h1 h2 (by rw [← Paired.length h1]; decide)))) (fun _ => rfl)) (semB_cons (semS_ret (semW_val xs)) semB_nil) semB_nil) (semB_cons (semS_if (semT_tru (ox (sem_isx c0 (by decide +kernel) n_isinstance (ov c0 2 (by decide +kernel)) ti_Busy_Faulty_NothingUnderWay (fun us h1 h2 => pe_clss c0 (.cons (by decide +kernel) (.cons (by decide +kernel) (.cons (by decide +kernel) ClsEs.nil))) h1 h2 (by rw [← Paired.length h1]; decide)))) (fun _ => rfl)) (semB_cons (semS_ret (semW_val xs)) semB_nil) semB_nil) (semB_cons (semS_ret (semW_bin op_addD fr_add (ox (sem_ix (ix_all (hu65 c0)) ok_ix (ox (sem_frz (semW_lst (pa_ops (opc (ox xs) (opc (ox xs) opn)))))) (ox (sem_bt c0 call_intC ok_intC (by decide +kernel) n_int (by decide +kernel) (opc (ox (sem_isx c0 (by decide +kernel) n_isinstance (ov c0 2 (by decide +kernel)) ti_BadPlace (fun us h1 h2 => pe_cls1 c0 (by decide +kernel) h1 h2))) opn))) (by intro _ _; rfl))) (ox (sem_ix (ix_all (hu65 c0)) ok_ix (ox (sem_frz (semW_lst (pa_ops (opc (ox xs) (opc (ox xs) opn)))))) (ox (sem_bt c0 call_intC ok_intC (by decide +kernel) n_int (by decide +kernel) (opc (ox (sem_isx c0 (by decide +kernel) n_isinstance (ov c0 2 (by decide +kernel)) ti_NoRoom (fun us h1 h2 => pe_cls1 c0 (by decide +kernel) h1 h2))) opn))) (by intro _ _; rfl))))) semB_nil)))))))
theorem t__law_said {Z : En} {k : Nat} {fa : Addr} {fd : FuncData} (a_between : FnAt Z.P Z.w Z.K Z.mg Z.base k "between" I_between) (n_str : Z.mg "str" = none) (n_isinstance : Z.mg "isinstance" = none) (n_int : Z.mg "int" = none)  (tk_MergeError_Refused : TabK Z ["MergeError", "Refused"] [("BadPlace", true), ("NoRoom", true)]) (ti_BadChoice_BadDeeds_BadDocument_BadLine_BadLines_BadName_BadOutcome_BadSides_BadText : TabI Z ["BadChoice", "BadDeeds", "BadDocument", "BadLine", "BadLines", "BadName", "BadOutcome", "BadSides", "BadText"] [("BadPlace", false), ("NoRoom", false)]) (ti_Busy_Faulty_NothingUnderWay : TabI Z ["Busy", "Faulty", "NothingUnderWay"] [("BadPlace", false), ("NoRoom", false)]) (ti_BadPlace : TabI Z ["BadPlace"] [("BadPlace", true), ("NoRoom", false)]) (ti_NoRoom : TabI Z ["NoRoom"] [("BadPlace", false), ("NoRoom", true)]) (F : L2.Fun Z.K "_law_said" "_law_said" s__law_said fa fd) (g : Z.mg "_law_said" = some (.ref fa)) : FnAt Z.P Z.w Z.K Z.mg Z.base (k + 1) "_law_said" I__law_said :=
  fnAt_fun F g sc__law_said ar2 rfl (fun _ _ _ _ _ _ us h => match us, h with | [_, _], _ => rfl) (fun us h => match us, h with | [_, _], _ => rfl) fun X W ent c => b__law_said a_between n_str n_isinstance n_int tk_MergeError_Refused ti_BadChoice_BadDeeds_BadDocument_BadLine_BadLines_BadName_BadOutcome_BadSides_BadText ti_Busy_Faulty_NothingUnderWay ti_BadPlace ti_NoRoom c

abbrev s__law_is_place : Stmt := topS 38
theorem sc__law_is_place : FnScope ["thing", "sign"] ["thing"] (defScope s__law_is_place) := ⟨rfl, rfl, rfl, by decide +kernel, rfl, by decide +kernel, by decide +kernel⟩
def m__law_is_place_0 : Tx := tBool (bPrim fNotIn [.sl 1, .ex (bC (.str "0123456789"))])
def m__law_is_place : Sm := sSeq (sIf (tOrB (tNotB (tTru (.ex (bPrim fIsi [.sl 0, .ex (bC (.ty "str"))])))) (tNotB (tBool (bChain fLt fLt (.ex (bC (.int 0))) (.ex (bPrim fLen [.sl 0])) (.ex (bC (.int 9))))))) (sSeq (sRet (wVal (bC (.bl false)))) (sOk .next)) (sOk .next)) (sSeq (sRet (wVal (bAnd (bPrim fEq [.ex (eFrz (wComp (iVal (bVar 0)) [1] (.nm 1) (m__law_is_place_0) (bVar 1))), .ex (eFrz (wLst []))]) (bPrim fNe [.ex (bPrim fIx [.sl 0, .ex (bPrim negF [.ex (bC (.int 1))])]), .ex (bC (.str "0"))])))) (sOk .next))
def F__law_is_place : Fsem := fsem 2 m__law_is_place
abbrev I__law_is_place : FnI := ⟨["thing"], F__law_is_place, [], [(1, [], ar1)]⟩
theorem b__law_is_place {Z : En} {k : Nat} {X : Cx} {W : WX} {ent : Ent}  (n_len : Z.mg "len" = none) (n_str : Z.mg "str" = none) (n_isinstance : Z.mg "isinstance" = none)   (c : Dx Z ["thing", "sign"] (defScope s__law_is_place) k X W) : PSs X (defBody s__law_is_place) (rdS X.gb W ent m__law_is_place) := by
  have c0 := c.toBx
  exact (semB_cons (semS_if ((semW_or (semT_not (semT_tru (ox (sem_bi c0 call_isi ok_isi (by decide +kernel) n_isinstance (by decide +kernel) (opc (ov c0 0 (by decide +kernel)) (opc (ox (xty c0 (by decide +kernel) n_str (by decide +kernel))) opn)))) (fun _ => rfl))) (semW_one (semT_not (semT_chain op_ltD op_ltD ok_ord ok_ord (ox xi) (ox (sem_bi c0 c_len ok_len (by decide +kernel) n_len (by decide +kernel) (opc (ov c0 0 (by decide +kernel)) opn))) (ox xi)))))).pt (semB_cons (semS_ret (semW_val xb)) semB_nil) semB_nil) (semB_cons (semS_ret (semW_val (sem_and (sem_cmp (op_eqA (hu64 c0)) ok_eq (ox (sem_frz (semW_lc c0 [("sign", 1)] (by decide +kernel) (semI_val (xv c0 0 (by decide +kernel))) tg_nm rfl fun s1 H1 C1 cl1 fp1 c1 => ⟨(gn c1 1 (by decide +kernel)), (.one fun ent => (semT_cmp (op_notInA (hu65 c1)) ok_notIn (ov c1 1 (by decide +kernel)) (ox xs) (by rfl))), fun ent => (xv c1 1 (by decide +kernel))⟩))) (ox (sem_frz (semW_lst (pa_ops opn)))) (by rfl)) (sem_one (sem_cmp (op_neA (hu64 c0)) ok_ne (ox (sem_ix (ix_all (hu65 c0)) ok_ix (ov c0 0 (by decide +kernel)) (ox (sem_un un_neg ok_neg (ox xi))) (by intro _ _; rfl))) (ox xs) (by rfl)))))) semB_nil))
theorem t__law_is_place {Z : En} {k : Nat} {fa : Addr} {fd : FuncData}  (n_len : Z.mg "len" = none) (n_str : Z.mg "str" = none) (n_isinstance : Z.mg "isinstance" = none)   (F : L2.Fun Z.K "_law_is_place" "_law_is_place" s__law_is_place fa fd) (g : Z.mg "_law_is_place" = some (.ref fa)) : FnAt Z.P Z.w Z.K Z.mg Z.base (k + 1) "_law_is_place" I__law_is_place :=
  fnAt_fun F g sc__law_is_place ar1 rfl (fun _ _ _ _ _ _ us h => match us, h with | [_], _ => rfl) (fun us h => match us, h with | [_], _ => rfl) fun X W ent c => b__law_is_place n_len n_str n_isinstance c

abbrev s__law_right : Stmt := topS 39
theorem sc__law_right : FnScope ["under", "over", "one", "due", "found"] ["under", "over"] (defScope s__law_right) := ⟨rfl, rfl, rfl, by decide +kernel, rfl, by decide +kernel, by decide +kernel⟩
def m__law_right_0 : Sm := sSeq (sIf (tAndB (tBool (bPrim fNotN [.sl 2, .ex (bC .non)])) (tNotB (tTru (.ex (eFrz (wCall F__law_is_place [] ar1 [bVar 2] [])))))) (sSeq (sRet (wVal (bPrim fEq [.ex (eFrz (wLst [eFrz (wCall F__law_said [] ar2 [bVar 0, bVar 1] []), eFrz (wCall F__law_said [] ar2 [bVar 0, bVar 1] [])])), .ex (eFrz (wLst [bC (.str "bad"), bC (.str "bad")]))]))) (sOk .next)) (sOk .next)) (sOk .next)
def m__law_right : Sm := sSeq (sFor (iVal (bTup [bVar 0, bVar 1])) (.nm 2) (m__law_right_0)) (sSeq (sIf (tAndB (tBool (bPrim fNotN [.sl 0, .ex (bC .non)])) (tAndB (tBool (bPrim fNotN [.sl 1, .ex (bC .non)])) (tBool (bPrim fGe [.sl 0, .sl 1])))) (sSeq (sRet (wVal (bPrim fEq [.ex (eFrz (wCall F__law_said [] ar2 [bVar 0, bVar 1] [])), .ex (bC (.str "bad"))]))) (sOk .next)) (sOk .next)) (sSeq (sPar [3, 4] [wCall F__law_due [] ar2 [bVar 0, bVar 1] [], wCall F__law_said [] ar2 [bVar 0, bVar 1] []]) (sSeq (sIf (tOrB (tBool (bPrim fNe [.sl 4, .sl 3])) (tBool (bPrim fNe [.ex (eFrz (wCall F__law_said [] ar2 [bVar 0, bVar 1] [])), .sl 3]))) (sSeq (sRet (wVal (bC (.bl false)))) (sOk .next)) (sOk .next)) (sSeq (sIf (tBool (bPrim fEq [.sl 3, .ex (bC (.str "no room"))])) (sSeq (sRet (wVal (bC (.bl true)))) (sOk .next)) (sOk .next)) (sSeq (sRet (wVal (bAnd (bOr (bPrim fIsN [.sl 0, .ex (bC .non)]) (bPrim fLt [.sl 0, .sl 3])) (bAnd (bOr (bPrim fIsN [.sl 1, .ex (bC .non)]) (bPrim fLt [.sl 3, .sl 1])) (eFrz (wCall F__law_is_place [] ar1 [bVar 3] [])))))) (sOk .next))))))
def F__law_right : Fsem := fsem 5 m__law_right
abbrev I__law_right : FnI := ⟨["under", "over"], F__law_right, [], [(2, [], ar2)]⟩
theorem b__law_right {Z : En} {k : Nat} {X : Cx} {W : WX} {ent : Ent} (a__law_is_place : FnAt Z.P Z.w Z.K Z.mg Z.base k "_law_is_place" I__law_is_place) (a__law_said : FnAt Z.P Z.w Z.K Z.mg Z.base k "_law_said" I__law_said) (a__law_due : FnAt Z.P Z.w Z.K Z.mg Z.base k "_law_due" I__law_due)    (c : Dx Z ["under", "over", "one", "due", "found"] (defScope s__law_right) k X W) : PSs X (defBody s__law_right) (rdS X.gb W ent m__law_right) := by
  have c0 := c.toBx
  exact (semB_cons (sfor c (semI_val (sem_tup (pa_ops (opc (ox (xv c0 0 (by decide +kernel))) (opc (ox (xv c0 1 (by decide +kernel))) opn))))) (gn c0 2 (by decide +kernel)) tg_nm (semB_cons (semS_if ((semW_and (semT_cmp op_notN ok_notN (ov c0 2 (by decide +kernel)) (ox xn) (by rfl)) (semW_one (semT_not (semT_tru (ox (sem_frz (xcall c0 a__law_is_place (by decide +kernel) (.head _) (opc (ox (xv c0 2 (by decide +kernel))) opn) .nil))) (fun _ => rfl)))))).pt (semB_cons (semS_ret (semW_val (sem_cmp (op_eqA (hu64 c0)) ok_eq (ox (sem_frz (semW_lst (pa_ops (opc (ox (sem_frz (xcall c0 a__law_said (by decide +kernel) (.head _) (opc (ox (xv c0 0 (by decide +kernel))) (opc (ox (xv c0 1 (by decide +kernel))) opn)) .nil))) (opc (ox (sem_frz (xcall c0 a__law_said (by decide +kernel) (.head _) (opc (ox (xv c0 0 (by decide +kernel))) (opc (ox (xv c0 1 (by decide +kernel))) opn)) .nil))) opn)))))) (ox (sem_frz (semW_lst (pa_ops (opc (ox xs) (opc (ox xs) opn)))))) (by rfl)))) semB_nil) semB_nil) semB_nil)) (semB_cons (semS_if ((semW_and (semT_cmp op_notN ok_notN (ov c0 0 (by decide +kernel)) (ox xn) (by rfl)) (semW_and (semT_cmp op_notN ok_notN (ov c0 1 (by decide +kernel)) (ox xn) (by rfl)) (semW_one (semT_cmp op_geD ok_ord (ov c0 0 (by decide +kernel)) (ov c0 1 (by decide +kernel)) (by rfl)))))).pt (semB_cons (semS_ret (semW_val (sem_cmp (op_eqA (hu64 c0)) ok_eq (ox (sem_frz (xcall c0 a__law_said (by decide +kernel) (.head _) (opc (ox (xv c0 0 (by decide +kernel))) (opc (ox (xv c0 1 (by decide +kernel))) opn)) .nil))) (ox xs) (by rfl)))) semB_nil) semB_nil) (semB_cons (spar2 c0 3 4 (by decide) (by decide +kernel) (by decide +kernel) (wxc (fun ent => (xcall c0 a__law_due (by decide +kernel) (.head _) (opc (ox (xv c0 0 (by decide +kernel))) (opc (ox (xv c0 1 (by decide +kernel))) opn)) .nil)) (wxc (fun ent => (xcall c0 a__law_said (by decide +kernel) (.head _) (opc (ox (xv c0 0 (by decide +kernel))) (opc (ox (xv c0 1 (by decide +kernel))) opn)) .nil)) wxn)) (by decide +kernel)) (semB_cons (semS_if ((semW_or (semT_cmp (op_neA (hu64 c0)) ok_ne (ov c0 4 (by decide +kernel)) (ov c0 3 (by decide +kernel)) (by rfl)) (semW_one (semT_cmp (op_neA (hu64 c0)) ok_ne (ox (sem_frz (xcall c0 a__law_said (by decide +kernel) (.head _) (opc (ox (xv c0 0 (by decide +kernel))) (opc (ox (xv c0 1 (by decide +kernel))) opn)) .nil))) (ov c0 3 (by decide +kernel)) (by rfl))))).pt (semB_cons (semS_ret (semW_val xb)) semB_nil) semB_nil) (semB_cons (semS_if (semT_cmp (op_eqA (hu64 c0)) ok_eq (ov c0 3 (by decide +kernel)) (ox xs) (by rfl)) (semB_cons (semS_ret (semW_val xb)) semB_nil) semB_nil) (semB_cons (semS_ret (semW_val (sem_and (sem_or (sem_cmp op_isN ok_isN (ov c0 0 (by decide +kernel)) (ox xn) (by rfl)) (sem_one (sem_cmp op_ltD ok_ord (ov c0 0 (by decide +kernel)) (ov c0 3 (by decide +kernel)) (by rfl)))) (sem_and (sem_or (sem_cmp op_isN ok_isN (ov c0 1 (by decide +kernel)) (ox xn) (by rfl)) (sem_one (sem_cmp op_ltD ok_ord (ov c0 3 (by decide +kernel)) (ov c0 1 (by decide +kernel)) (by rfl)))) (sem_one (sem_frz (xcall c0 a__law_is_place (by decide +kernel) (.head _) (opc (ox (xv c0 3 (by decide +kernel))) opn) .nil))))))) semB_nil))))))
theorem t__law_right {Z : En} {k : Nat} {fa : Addr} {fd : FuncData} (a__law_is_place : FnAt Z.P Z.w Z.K Z.mg Z.base k "_law_is_place" I__law_is_place) (a__law_said : FnAt Z.P Z.w Z.K Z.mg Z.base k "_law_said" I__law_said) (a__law_due : FnAt Z.P Z.w Z.K Z.mg Z.base k "_law_due" I__law_due)    (F : L2.Fun Z.K "_law_right" "_law_right" s__law_right fa fd) (g : Z.mg "_law_right" = some (.ref fa)) : FnAt Z.P Z.w Z.K Z.mg Z.base (k + 1) "_law_right" I__law_right :=
  fnAt_fun F g sc__law_right ar2 rfl (fun _ _ _ _ _ _ us h => match us, h with | [_, _], _ => rfl) (fun us h => match us, h with | [_, _], _ => rfl) fun X W ent c => b__law_right a__law_is_place a__law_said a__law_due c

abbrev s_law : Stmt := topS 40
theorem sc_law : FnScope ["script", "draw", "k", "one", "other", "odd", "pairs", "turn", "under", "over", "middle"] ["script"] (defScope s_law) := ⟨rfl, rfl, rfl, by decide +kernel, rfl, by decide +kernel, by decide +kernel⟩
def m_law_0 : Sm := sSeq (sIf (tNotB (tTru (.ex (eFrz (wCall F__law_right [] ar2 [bVar 8, bVar 9] []))))) (sSeq (sRet (wVal (bC (.bl false)))) (sOk .next)) (sOk .next)) (sOk .next)
def m_law_1 : Sm := sSeq (sSet 10 (wCall F__law_said [] ar2 [bVar 8, bVar 9] [])) (sSeq (sIf (tBool (bPrim fIn [.sl 10, .ex (eFrz (wLst [bC (.str "no room"), bC (.str "bad")]))])) (sSeq (sOk .brk) (sOk .next)) (sOk .next)) (sSeq (sIf (tOrB (tNotB (tTru (.ex (eFrz (wCall F__law_right [] ar2 [bVar 8, bVar 10] []))))) (tNotB (tTru (.ex (eFrz (wCall F__law_right [] ar2 [bVar 10, bVar 9] [])))))) (sSeq (sRet (wVal (bC (.bl false)))) (sOk .next)) (sOk .next)) (sSeq (sAsg (.tp [.nm 8, .nm 9]) (bPrim fIx [.ex (eFrz (wLst [bTup [bVar 8, bVar 10], bTup [bVar 10, bVar 9]])), .ex (eFrz (wCall F__law_next [] ar2 [bVar 1, bC (.int 2)] []))])) (sOk .next))))
def m_law_2 : Sm := sSeq (sSet 3 (wCall F__law_place [] ar1 [bVar 1] [])) (sSeq (sSet 4 (wCall F__law_near [] ar2 [bVar 1, bVar 3] [])) (sSeq (sSet 5 (wVal (bPrim fIx [.ex (eFrz (wLst [bC .non, bC (.int 5), bC (.bl true), bC (.str ""), bC (.str "0"), bC (.str "10"), bC (.str "a"), bC (.str "123456789"), eFrz (wLst [bC (.str "1")]), bTup [bC (.str "1")], bC (.str "1 ")])), .ex (eFrz (wCall F__law_next [] ar2 [bVar 1, bC (.int 11)] []))]))) (sSeq (sSet 6 (wLst [bTup [bVar 3, bVar 4], bTup [bVar 4, bVar 3], bTup [bC .non, bVar 3], bTup [bVar 3, bC .non], bTup [bC .non, bC .non], bTup [bVar 5, bVar 3], bTup [bVar 3, bVar 5], bTup [bVar 5, bVar 5]])) (sSeq (sFor (iVal (bVar 6)) (.tp [.nm 8, .nm 9]) (m_law_0)) (sSeq (sPar [8, 9] [wVal (bPrim fMinS [.sl 3, .sl 4]), wVal (bPrim fMaxS [.sl 3, .sl 4])]) (sSeq (sFor (iRange range1 [.ex (bC (.int 12))]) (.nm 7) (m_law_1)) (sOk .next)))))))
def m_law : Sm := sSeq (sSet 1 (wCall F__law_begin [] ar1 [bVar 0] [])) (sSeq (sFor (iRange range1 [.ex (bPrim fAdd [.ex (bPrim fMin [.ex (bC (.int 30)), .ex (bPrim fLen [.sl 0])]), .ex (bC (.int 1))])]) (.nm 2) (m_law_2)) (sSeq (sRet (wVal (bC (.bl true)))) (sOk .next)))
def F_law : Fsem := fsem 11 m_law
abbrev I_law : FnI := ⟨["script"], F_law, [], []⟩
theorem b_law {Z : En} {k : Nat} {X : Cx} {W : WX} {ent : Ent} (a__law_begin : FnAt Z.P Z.w Z.K Z.mg Z.base k "_law_begin" I__law_begin) (a__law_place : FnAt Z.P Z.w Z.K Z.mg Z.base k "_law_place" I__law_place) (a__law_near : FnAt Z.P Z.w Z.K Z.mg Z.base k "_law_near" I__law_near) (a__law_next : FnAt Z.P Z.w Z.K Z.mg Z.base k "_law_next" I__law_next) (a__law_right : FnAt Z.P Z.w Z.K Z.mg Z.base k "_law_right" I__law_right) (a__law_said : FnAt Z.P Z.w Z.K Z.mg Z.base k "_law_said" I__law_said) (n_len : Z.mg "len" = none) (n_min : Z.mg "min" = none) (n_range : Z.mg "range" = none) (n_max : Z.mg "max" = none)   (c : Dx Z ["script", "draw", "k", "one", "other", "odd", "pairs", "turn", "under", "over", "middle"] (defScope s_law) k X W) : PSs X (defBody s_law) (rdS X.gb W ent m_law) := by
  have c0 := c.toBx
  exact (semB_cons (sset c0 1 (by decide +kernel) (xcall c0 a__law_begin (by decide +kernel) (.head _) (opc (ox (xv c0 0 (by decide +kernel))) opn) .nil)) (semB_cons (sfor c (semI_range1 (Gl.of c0 (by decide +kernel)) (mgN c0 n_range) (opc (ox (sem_bin op_addD fr_add.ok (ox (sem_bi c0 (call_min2 c0.calm) ok_min (by decide +kernel) n_min (by decide +kernel) (opc (ox xi) (opc (ox (sem_bi c0 c_len ok_len (by decide +kernel) n_len (by decide +kernel) (opc (ov c0 0 (by decide +kernel)) opn))) opn)))) (ox xi))) opn) rfl) (gn c0 2 (by decide +kernel)) tg_nm (semB_cons (sset c0 3 (by decide +kernel) (xcall c0 a__law_place (by decide +kernel) (.head _) (opc (ox (xv c0 1 (by decide +kernel))) opn) .nil)) (semB_cons (sset c0 4 (by decide +kernel) (xcall c0 a__law_near (by decide +kernel) (.head _) (opc (ox (xv c0 1 (by decide +kernel))) (opc (ox (xv c0 3 (by decide +kernel))) opn)) .nil)) (semB_cons (sset c0 5 (by decide +kernel) (semW_val (sem_ix (ix_all (hu65 c0)) ok_ix (ox (sem_frz (semW_lst (pa_ops (opc (ox xn) (opc (ox xi) (opc (ox xb) (opc (ox xs) (opc (ox xs) (opc (ox xs) (opc (ox xs) (opc (ox xs) (opc (ox (sem_frz (semW_lst (pa_ops (opc (ox xs) opn))))) (opc (ox (sem_tup (pa_ops (opc (ox xs) opn)))) (opc (ox xs) opn))))))))))))))) (ox (sem_frz (xcall c0 a__law_next (by decide +kernel) (.head _) (opc (ox (xv c0 1 (by decide +kernel))) (opc (ox xi) opn)) .nil))) (by intro _ _; rfl)))) (semB_cons (sset c0 6 (by decide +kernel) (semW_lst (pa_ops (opc (ox (sem_tup (pa_ops (opc (ox (xv c0 3 (by decide +kernel))) (opc (ox (xv c0 4 (by decide +kernel))) opn))))) (opc (ox (sem_tup (pa_ops (opc (ox (xv c0 4 (by decide +kernel))) (opc (ox (xv c0 3 (by decide +kernel))) opn))))) (opc (ox (sem_tup (pa_ops (opc (ox xn) (opc (ox (xv c0 3 (by decide +kernel))) opn))))) (opc (ox (sem_tup (pa_ops (opc (ox (xv c0 3 (by decide +kernel))) (opc (ox xn) opn))))) (opc (ox (sem_tup (pa_ops (opc (ox xn) (opc (ox xn) opn))))) (opc (ox (sem_tup (pa_ops (opc (ox (xv c0 5 (by decide +kernel))) (opc (ox (xv c0 3 (by decide +kernel))) opn))))) (opc (ox (sem_tup (pa_ops (opc (ox (xv c0 3 (by decide +kernel))) (opc (ox (xv c0 5 (by decide +kernel))) opn))))) (opc (ox (sem_tup (pa_ops (opc (ox (xv c0 5 (by decide +kernel))) (opc (ox (xv c0 5 (by decide +kernel))) opn))))) opn))))))))))) (semB_cons (sfor c (semI_val (xv c0 6 (by decide +kernel))) (pg_tup c0.calm (pgs_cons (gn c0 8 (by decide +kernel)) (pgs_cons (gn c0 9 (by decide +kernel)) pgs_nil))) (tg_tp (tgs_cons tg_nm (tgs_cons tg_nm tgs_nil))) (semB_cons (semS_if (semT_not (semT_tru (ox (sem_frz (xcall c0 a__law_right (by decide +kernel) (.head _) (opc (ox (xv c0 8 (by decide +kernel))) (opc (ox (xv c0 9 (by decide +kernel))) opn)) .nil))) (fun _ => rfl))) (semB_cons (semS_ret (semW_val xb)) semB_nil) semB_nil) semB_nil)) (semB_cons (spar2 c0 8 9 (by decide) (by decide +kernel) (by decide +kernel) (wxc (fun ent => (semW_val (sem_bi c0 (call_minS c0.calm) ok_minS (by decide +kernel) n_min (by decide +kernel) (opc (ov c0 3 (by decide +kernel)) (opc (ov c0 4 (by decide +kernel)) opn))))) (wxc (fun ent => (semW_val (sem_bi c0 (call_maxS c0.calm) ok_maxS (by decide +kernel) n_max (by decide +kernel) (opc (ov c0 3 (by decide +kernel)) (opc (ov c0 4 (by decide +kernel)) opn))))) wxn)) (by decide +kernel)) (semB_cons (sfor c (semI_range1 (Gl.of c0 (by decide +kernel)) (mgN c0 n_range) (opc (ox xi) opn) rfl) (gn c0 7 (by decide +kernel)) tg_nm (semB_cons (sset c0 10 (by decide +kernel) (xcall c0 a__law_said (by decide +kernel) (.head _) (opc (ox (xv c0 8 (by decide +kernel))) (opc (ox (xv c0 9 (by decide +kernel))) opn)) .nil)) (semB_cons (semS_if (semT_cmp (op_inA (hu65 c0)) ok_in (ov c0 10 (by decide +kernel)) (ox (sem_frz (semW_lst (pa_ops (opc (ox xs) (opc (ox xs) opn)))))) (by rfl)) (semB_cons semS_break semB_nil) semB_nil) (semB_cons (semS_if ((semW_or (semT_not (semT_tru (ox (sem_frz (xcall c0 a__law_right (by decide +kernel) (.head _) (opc (ox (xv c0 8 (by decide +kernel))) (opc (ox (xv c0 10 (by decide +kernel))) opn)) .nil))) (fun _ => rfl))) (semW_one (semT_not (semT_tru (ox (sem_frz (xcall c0 a__law_right (by decide +kernel) (.head _) (opc (ox (xv c0 10 (by decide +kernel))) (opc (ox (xv c0 9 (by decide +kernel))) opn)) .nil))) (fun _ => rfl)))))).pt (semB_cons (semS_ret (semW_val xb)) semB_nil) semB_nil) (semB_cons (semS_asg (sem_ix (ix_all (hu65 c0)) ok_ix (ox (sem_frz (semW_lst (pa_ops (opc (ox (sem_tup (pa_ops (opc (ox (xv c0 8 (by decide +kernel))) (opc (ox (xv c0 10 (by decide +kernel))) opn))))) (opc (ox (sem_tup (pa_ops (opc (ox (xv c0 10 (by decide +kernel))) (opc (ox (xv c0 9 (by decide +kernel))) opn))))) opn)))))) (ox (sem_frz (xcall c0 a__law_next (by decide +kernel) (.head _) (opc (ox (xv c0 1 (by decide +kernel))) (opc (ox xi) opn)) .nil))) (by intro _ _; rfl)) (pg_tup c0.calm (pgs_cons (gn c0 8 (by decide +kernel)) (pgs_cons (gn c0 9 (by decide +kernel)) pgs_nil))) (tg_tp (tgs_cons tg_nm (tgs_cons tg_nm tgs_nil)))) semB_nil))))) semB_nil)))))))) (semB_cons (semS_ret (semW_val xb)) semB_nil)))
end TM.K04
namespace TM.K04
open PySem PySem.Spec L2 TM
open PyProof.Rows hiding St
theorem all_of {l : PySem.W.OpenLaw} {w : World} {K : PySem.W.Frag} {h : Heap} {mg : Str → Option Value} {fa : Addr} (X : K.In h) (G : h.Ns mainGlobals mg) (hfa : mg "law" = some (.ref fa))
    {f__law_begin : Addr} {od__law_begin an__law_begin : Option Addr} {sl__law_begin : Array (Option Value)} {oc__law_begin kV__law_begin dc__law_begin pm__law_begin cd__law_begin ct__law_begin : Value} (x1__law_begin : PySem.W.nsIn K mainGlobals "_law_begin" = some (some (.ref f__law_begin))) (x2__law_begin : K.lookup f__law_begin = some ⟨oc__law_begin, od__law_begin, .func (PySem.W.fnOf "_law_begin" "_law_begin" (defArgs s__law_begin) (defBody s__law_begin) (defScope s__law_begin) .none kV__law_begin dc__law_begin pm__law_begin an__law_begin cd__law_begin ct__law_begin), sl__law_begin⟩) (x3__law_begin : PySem.W.codeIn K cd__law_begin "_law_begin" = true) (x4__law_begin : PySem.W.keepIn K (.ref f__law_begin) = true)
    {f__law_mixed : Addr} {od__law_mixed an__law_mixed : Option Addr} {sl__law_mixed : Array (Option Value)} {oc__law_mixed kV__law_mixed dc__law_mixed pm__law_mixed cd__law_mixed ct__law_mixed : Value} (x1__law_mixed : PySem.W.nsIn K mainGlobals "_law_mixed" = some (some (.ref f__law_mixed))) (x2__law_mixed : K.lookup f__law_mixed = some ⟨oc__law_mixed, od__law_mixed, .func (PySem.W.fnOf "_law_mixed" "_law_mixed" (defArgs s__law_mixed) (defBody s__law_mixed) (defScope s__law_mixed) .none kV__law_mixed dc__law_mixed pm__law_mixed an__law_mixed cd__law_mixed ct__law_mixed), sl__law_mixed⟩) (x3__law_mixed : PySem.W.codeIn K cd__law_mixed "_law_mixed" = true) (x4__law_mixed : PySem.W.keepIn K (.ref f__law_mixed) = true)
    {f__law_next : Addr} {od__law_next an__law_next : Option Addr} {sl__law_next : Array (Option Value)} {oc__law_next kV__law_next dc__law_next pm__law_next cd__law_next ct__law_next : Value} (x1__law_next : PySem.W.nsIn K mainGlobals "_law_next" = some (some (.ref f__law_next))) (x2__law_next : K.lookup f__law_next = some ⟨oc__law_next, od__law_next, .func (PySem.W.fnOf "_law_next" "_law_next" (defArgs s__law_next) (defBody s__law_next) (defScope s__law_next) .none kV__law_next dc__law_next pm__law_next an__law_next cd__law_next ct__law_next), sl__law_next⟩) (x3__law_next : PySem.W.codeIn K cd__law_next "_law_next" = true) (x4__law_next : PySem.W.keepIn K (.ref f__law_next) = true)
    {f__law_figures : Addr} {od__law_figures an__law_figures : Option Addr} {sl__law_figures : Array (Option Value)} {oc__law_figures kV__law_figures dc__law_figures pm__law_figures cd__law_figures ct__law_figures : Value} (x1__law_figures : PySem.W.nsIn K mainGlobals "_law_figures" = some (some (.ref f__law_figures))) (x2__law_figures : K.lookup f__law_figures = some ⟨oc__law_figures, od__law_figures, .func (PySem.W.fnOf "_law_figures" "_law_figures" (defArgs s__law_figures) (defBody s__law_figures) (defScope s__law_figures) .none kV__law_figures dc__law_figures pm__law_figures an__law_figures cd__law_figures ct__law_figures), sl__law_figures⟩) (x3__law_figures : PySem.W.codeIn K cd__law_figures "_law_figures" = true) (x4__law_figures : PySem.W.keepIn K (.ref f__law_figures) = true)
    {f__law_place : Addr} {od__law_place an__law_place : Option Addr} {sl__law_place : Array (Option Value)} {oc__law_place kV__law_place dc__law_place pm__law_place cd__law_place ct__law_place : Value} (x1__law_place : PySem.W.nsIn K mainGlobals "_law_place" = some (some (.ref f__law_place))) (x2__law_place : K.lookup f__law_place = some ⟨oc__law_place, od__law_place, .func (PySem.W.fnOf "_law_place" "_law_place" (defArgs s__law_place) (defBody s__law_place) (defScope s__law_place) .none kV__law_place dc__law_place pm__law_place an__law_place cd__law_place ct__law_place), sl__law_place⟩) (x3__law_place : PySem.W.codeIn K cd__law_place "_law_place" = true) (x4__law_place : PySem.W.keepIn K (.ref f__law_place) = true)
    {f__law_near : Addr} {od__law_near an__law_near : Option Addr} {sl__law_near : Array (Option Value)} {oc__law_near kV__law_near dc__law_near pm__law_near cd__law_near ct__law_near : Value} (x1__law_near : PySem.W.nsIn K mainGlobals "_law_near" = some (some (.ref f__law_near))) (x2__law_near : K.lookup f__law_near = some ⟨oc__law_near, od__law_near, .func (PySem.W.fnOf "_law_near" "_law_near" (defArgs s__law_near) (defBody s__law_near) (defScope s__law_near) .none kV__law_near dc__law_near pm__law_near an__law_near cd__law_near ct__law_near), sl__law_near⟩) (x3__law_near : PySem.W.codeIn K cd__law_near "_law_near" = true) (x4__law_near : PySem.W.keepIn K (.ref f__law_near) = true)
    {f__law_is_place : Addr} {od__law_is_place an__law_is_place : Option Addr} {sl__law_is_place : Array (Option Value)} {oc__law_is_place kV__law_is_place dc__law_is_place pm__law_is_place cd__law_is_place ct__law_is_place : Value} (x1__law_is_place : PySem.W.nsIn K mainGlobals "_law_is_place" = some (some (.ref f__law_is_place))) (x2__law_is_place : K.lookup f__law_is_place = some ⟨oc__law_is_place, od__law_is_place, .func (PySem.W.fnOf "_law_is_place" "_law_is_place" (defArgs s__law_is_place) (defBody s__law_is_place) (defScope s__law_is_place) .none kV__law_is_place dc__law_is_place pm__law_is_place an__law_is_place cd__law_is_place ct__law_is_place), sl__law_is_place⟩) (x3__law_is_place : PySem.W.codeIn K cd__law_is_place "_law_is_place" = true) (x4__law_is_place : PySem.W.keepIn K (.ref f__law_is_place) = true)
    {f_is_word : Addr} {od_is_word an_is_word : Option Addr} {sl_is_word : Array (Option Value)} {oc_is_word dV_is_word kV_is_word dc_is_word pm_is_word cd_is_word ct_is_word : Value} (x1_is_word : PySem.W.nsIn K mainGlobals "is_word" = some (some (.ref f_is_word))) (x2_is_word : K.lookup f_is_word = some ⟨oc_is_word, od_is_word, .func (PySem.W.fnOf "is_word" "is_word" (defArgs s_is_word) (defBody s_is_word) (defScope s_is_word) dV_is_word kV_is_word dc_is_word pm_is_word an_is_word cd_is_word ct_is_word), sl_is_word⟩) (x3_is_word : PySem.W.codeIn K cd_is_word "is_word" = true) (x4_is_word : PySem.W.keepIn K (.ref f_is_word) = true) (x5_is_word : DflV K dV_is_word [.str "abcdefghijklmnopqrstuvwxyz", .int 8])
    {f_is_place : Addr} {od_is_place an_is_place : Option Addr} {sl_is_place : Array (Option Value)} {oc_is_place kV_is_place dc_is_place pm_is_place cd_is_place ct_is_place : Value} (x1_is_place : PySem.W.nsIn K mainGlobals "is_place" = some (some (.ref f_is_place))) (x2_is_place : K.lookup f_is_place = some ⟨oc_is_place, od_is_place, .func (PySem.W.fnOf "is_place" "is_place" (defArgs s_is_place) (defBody s_is_place) (defScope s_is_place) .none kV_is_place dc_is_place pm_is_place an_is_place cd_is_place ct_is_place), sl_is_place⟩) (x3_is_place : PySem.W.codeIn K cd_is_place "is_place" = true) (x4_is_place : PySem.W.keepIn K (.ref f_is_place) = true)
    {f_next_place : Addr} {od_next_place an_next_place : Option Addr} {sl_next_place : Array (Option Value)} {oc_next_place kV_next_place dc_next_place pm_next_place cd_next_place ct_next_place : Value} (x1_next_place : PySem.W.nsIn K mainGlobals "next_place" = some (some (.ref f_next_place))) (x2_next_place : K.lookup f_next_place = some ⟨oc_next_place, od_next_place, .func (PySem.W.fnOf "next_place" "next_place" (defArgs s_next_place) (defBody s_next_place) (defScope s_next_place) .none kV_next_place dc_next_place pm_next_place an_next_place cd_next_place ct_next_place), sl_next_place⟩) (x3_next_place : PySem.W.codeIn K cd_next_place "next_place" = true) (x4_next_place : PySem.W.keepIn K (.ref f_next_place) = true)
    {f_between : Addr} {od_between an_between : Option Addr} {sl_between : Array (Option Value)} {oc_between kV_between dc_between pm_between cd_between ct_between : Value} (x1_between : PySem.W.nsIn K mainGlobals "between" = some (some (.ref f_between))) (x2_between : K.lookup f_between = some ⟨oc_between, od_between, .func (PySem.W.fnOf "between" "between" (defArgs s_between) (defBody s_between) (defScope s_between) .none kV_between dc_between pm_between an_between cd_between ct_between), sl_between⟩) (x3_between : PySem.W.codeIn K cd_between "between" = true) (x4_between : PySem.W.keepIn K (.ref f_between) = true) (x6_between : KwdV K kV_between [("low", .non), ("high", .non)])
    {f__law_said : Addr} {od__law_said an__law_said : Option Addr} {sl__law_said : Array (Option Value)} {oc__law_said kV__law_said dc__law_said pm__law_said cd__law_said ct__law_said : Value} (x1__law_said : PySem.W.nsIn K mainGlobals "_law_said" = some (some (.ref f__law_said))) (x2__law_said : K.lookup f__law_said = some ⟨oc__law_said, od__law_said, .func (PySem.W.fnOf "_law_said" "_law_said" (defArgs s__law_said) (defBody s__law_said) (defScope s__law_said) .none kV__law_said dc__law_said pm__law_said an__law_said cd__law_said ct__law_said), sl__law_said⟩) (x3__law_said : PySem.W.codeIn K cd__law_said "_law_said" = true) (x4__law_said : PySem.W.keepIn K (.ref f__law_said) = true)
    {f__law_number : Addr} {od__law_number an__law_number : Option Addr} {sl__law_number : Array (Option Value)} {oc__law_number kV__law_number dc__law_number pm__law_number cd__law_number ct__law_number : Value} (x1__law_number : PySem.W.nsIn K mainGlobals "_law_number" = some (some (.ref f__law_number))) (x2__law_number : K.lookup f__law_number = some ⟨oc__law_number, od__law_number, .func (PySem.W.fnOf "_law_number" "_law_number" (defArgs s__law_number) (defBody s__law_number) (defScope s__law_number) .none kV__law_number dc__law_number pm__law_number an__law_number cd__law_number ct__law_number), sl__law_number⟩) (x3__law_number : PySem.W.codeIn K cd__law_number "_law_number" = true) (x4__law_number : PySem.W.keepIn K (.ref f__law_number) = true)
    {f__law_fitting : Addr} {od__law_fitting an__law_fitting : Option Addr} {sl__law_fitting : Array (Option Value)} {oc__law_fitting kV__law_fitting dc__law_fitting pm__law_fitting cd__law_fitting ct__law_fitting : Value} (x1__law_fitting : PySem.W.nsIn K mainGlobals "_law_fitting" = some (some (.ref f__law_fitting))) (x2__law_fitting : K.lookup f__law_fitting = some ⟨oc__law_fitting, od__law_fitting, .func (PySem.W.fnOf "_law_fitting" "_law_fitting" (defArgs s__law_fitting) (defBody s__law_fitting) (defScope s__law_fitting) .none kV__law_fitting dc__law_fitting pm__law_fitting an__law_fitting cd__law_fitting ct__law_fitting), sl__law_fitting⟩) (x3__law_fitting : PySem.W.codeIn K cd__law_fitting "_law_fitting" = true) (x4__law_fitting : PySem.W.keepIn K (.ref f__law_fitting) = true)
    {f__law_due : Addr} {od__law_due an__law_due : Option Addr} {sl__law_due : Array (Option Value)} {oc__law_due kV__law_due dc__law_due pm__law_due cd__law_due ct__law_due : Value} (x1__law_due : PySem.W.nsIn K mainGlobals "_law_due" = some (some (.ref f__law_due))) (x2__law_due : K.lookup f__law_due = some ⟨oc__law_due, od__law_due, .func (PySem.W.fnOf "_law_due" "_law_due" (defArgs s__law_due) (defBody s__law_due) (defScope s__law_due) .none kV__law_due dc__law_due pm__law_due an__law_due cd__law_due ct__law_due), sl__law_due⟩) (x3__law_due : PySem.W.codeIn K cd__law_due "_law_due" = true) (x4__law_due : PySem.W.keepIn K (.ref f__law_due) = true)
    {f__law_right : Addr} {od__law_right an__law_right : Option Addr} {sl__law_right : Array (Option Value)} {oc__law_right kV__law_right dc__law_right pm__law_right cd__law_right ct__law_right : Value} (x1__law_right : PySem.W.nsIn K mainGlobals "_law_right" = some (some (.ref f__law_right))) (x2__law_right : K.lookup f__law_right = some ⟨oc__law_right, od__law_right, .func (PySem.W.fnOf "_law_right" "_law_right" (defArgs s__law_right) (defBody s__law_right) (defScope s__law_right) .none kV__law_right dc__law_right pm__law_right an__law_right cd__law_right ct__law_right), sl__law_right⟩) (x3__law_right : PySem.W.codeIn K cd__law_right "_law_right" = true) (x4__law_right : PySem.W.keepIn K (.ref f__law_right) = true)
    {f_law : Addr} {od_law an_law : Option Addr} {sl_law : Array (Option Value)} {oc_law kV_law dc_law pm_law cd_law ct_law : Value} (x1_law : PySem.W.nsIn K mainGlobals "law" = some (some (.ref f_law))) (x2_law : K.lookup f_law = some ⟨oc_law, od_law, .func (PySem.W.fnOf "law" "law" (defArgs s_law) (defBody s_law) (defScope s_law) .none kV_law dc_law pm_law an_law cd_law ct_law), sl_law⟩) (x3_law : PySem.W.codeIn K cd_law "law" = true) (x4_law : PySem.W.keepIn K (.ref f_law) = true)
    (z_len : PySem.W.nsIn K mainGlobals "len" = some none)
    (z_range : PySem.W.nsIn K mainGlobals "range" = some none)
    (z_str : PySem.W.nsIn K mainGlobals "str" = some none)
    (z_isinstance : PySem.W.nsIn K mainGlobals "isinstance" = some none)
    (z_all : PySem.W.nsIn K mainGlobals "all" = some none)
    (z_int : PySem.W.nsIn K mainGlobals "int" = some none)
    (z_min : PySem.W.nsIn K mainGlobals "min" = some none)
    (z_max : PySem.W.nsIn K mainGlobals "max" = some none)
    {tk_FIGURES : Tok} (v_FIGURES : PySem.W.nsIn K mainGlobals "FIGURES" = some (some (.str "0123456789" tk_FIGURES)))
    {tk_MOST_FIGURES : Tok} (v_MOST_FIGURES : PySem.W.nsIn K mainGlobals "MOST_FIGURES" = some (some (.int 8 tk_MOST_FIGURES)))
    {C_BadPlace : Addr} (y_BadPlace : PySem.W.nsIn K mainGlobals "BadPlace" = some (some (.ref C_BadPlace)))
    {C_NoRoom : Addr} (y_NoRoom : PySem.W.nsIn K mainGlobals "NoRoom" = some (some (.ref C_NoRoom)))
    {C_MergeError : Addr} (y_MergeError : PySem.W.nsIn K mainGlobals "MergeError" = some (some (.ref C_MergeError)))
    {C_Refused : Addr} (y_Refused : PySem.W.nsIn K mainGlobals "Refused" = some (some (.ref C_Refused)))
    {C_BadChoice : Addr} (y_BadChoice : PySem.W.nsIn K mainGlobals "BadChoice" = some (some (.ref C_BadChoice)))
    {C_BadDeeds : Addr} (y_BadDeeds : PySem.W.nsIn K mainGlobals "BadDeeds" = some (some (.ref C_BadDeeds)))
    {C_BadDocument : Addr} (y_BadDocument : PySem.W.nsIn K mainGlobals "BadDocument" = some (some (.ref C_BadDocument)))
    {C_BadLine : Addr} (y_BadLine : PySem.W.nsIn K mainGlobals "BadLine" = some (some (.ref C_BadLine)))
    {C_BadLines : Addr} (y_BadLines : PySem.W.nsIn K mainGlobals "BadLines" = some (some (.ref C_BadLines)))
    {C_BadName : Addr} (y_BadName : PySem.W.nsIn K mainGlobals "BadName" = some (some (.ref C_BadName)))
    {C_BadOutcome : Addr} (y_BadOutcome : PySem.W.nsIn K mainGlobals "BadOutcome" = some (some (.ref C_BadOutcome)))
    {C_BadSides : Addr} (y_BadSides : PySem.W.nsIn K mainGlobals "BadSides" = some (some (.ref C_BadSides)))
    {C_BadText : Addr} (y_BadText : PySem.W.nsIn K mainGlobals "BadText" = some (some (.ref C_BadText)))
    {C_Busy : Addr} (y_Busy : PySem.W.nsIn K mainGlobals "Busy" = some (some (.ref C_Busy)))
    {C_Faulty : Addr} (y_Faulty : PySem.W.nsIn K mainGlobals "Faulty" = some (some (.ref C_Faulty)))
    {C_NothingUnderWay : Addr} (y_NothingUnderWay : PySem.W.nsIn K mainGlobals "NothingUnderWay" = some (some (.ref C_NothingUnderWay)))
    (q_BadPlace : PySem.W.excIn K C_BadPlace [.type "ValueError", .type "Exception", .type "BaseException", .type "object"] "ValueError.__new__" = true) (s_BadPlace : PySem.W.exmOne K (.ref C_BadPlace) (.ref C_BadPlace) = some true)
    (q_NoRoom : PySem.W.excIn K C_NoRoom [.type "RuntimeError", .type "Exception", .type "BaseException", .type "object"] "RuntimeError.__new__" = true) (s_NoRoom : PySem.W.exmOne K (.ref C_NoRoom) (.ref C_NoRoom) = some true)
    (i_BadPlace : ExI K C_BadPlace)
    (i_NoRoom : ExI K C_NoRoom)
    (w_tk_MergeError_Refused_BadPlace : PySem.W.exmAny K (.ref C_BadPlace) [(.ref C_MergeError), (.ref C_Refused)] = some true)
    (w_tk_MergeError_Refused_NoRoom : PySem.W.exmAny K (.ref C_NoRoom) [(.ref C_MergeError), (.ref C_Refused)] = some true)
    (w_ti_BadChoice_BadDeeds_BadDocument_BadLine_BadLines_BadName_BadOutcome_BadSides_BadText_BadPlace : PySem.W.exmAny K (.ref C_BadPlace) [(.ref C_BadChoice), (.ref C_BadDeeds), (.ref C_BadDocument), (.ref C_BadLine), (.ref C_BadLines), (.ref C_BadName), (.ref C_BadOutcome), (.ref C_BadSides), (.ref C_BadText)] = some false)
    (w_ti_BadChoice_BadDeeds_BadDocument_BadLine_BadLines_BadName_BadOutcome_BadSides_BadText_NoRoom : PySem.W.exmAny K (.ref C_NoRoom) [(.ref C_BadChoice), (.ref C_BadDeeds), (.ref C_BadDocument), (.ref C_BadLine), (.ref C_BadLines), (.ref C_BadName), (.ref C_BadOutcome), (.ref C_BadSides), (.ref C_BadText)] = some false)
    (w_ti_Busy_Faulty_NothingUnderWay_BadPlace : PySem.W.exmAny K (.ref C_BadPlace) [(.ref C_Busy), (.ref C_Faulty), (.ref C_NothingUnderWay)] = some false)
    (w_ti_Busy_Faulty_NothingUnderWay_NoRoom : PySem.W.exmAny K (.ref C_NoRoom) [(.ref C_Busy), (.ref C_Faulty), (.ref C_NothingUnderWay)] = some false)
    (w_ti_BadPlace_BadPlace : PySem.W.exmAny K (.ref C_BadPlace) [(.ref C_BadPlace)] = some true)
    (w_ti_BadPlace_NoRoom : PySem.W.exmAny K (.ref C_NoRoom) [(.ref C_BadPlace)] = some false)
    (w_ti_NoRoom_BadPlace : PySem.W.exmAny K (.ref C_BadPlace) [(.ref C_NoRoom)] = some false)
    (w_ti_NoRoom_NoRoom : PySem.W.exmAny K (.ref C_NoRoom) [(.ref C_NoRoom)] = some true) :
    ∃ fd : FuncData, (∀ (s : Shared) (v : Value), BindsTo s fd ⟨[v], []⟩ [("script", v)]) ∧ ∀ base : Heap, K.In base → base.Ns mainGlobals mg → FnG l.prog w K mg base 6 fa fd ["script"] (spD ⟨K, mg⟩ 1 F_law) := by
  have e := hfa.symm.trans (PySem.W.mg_of X G x1_law)
  cases e
  have R__law_begin := fun_mk (st := s__law_begin) x2__law_begin x3__law_begin x4__law_begin
  have R__law_mixed := fun_mk (st := s__law_mixed) x2__law_mixed x3__law_mixed x4__law_mixed
  have R__law_next := fun_mk (st := s__law_next) x2__law_next x3__law_next x4__law_next
  have R__law_figures := fun_mk (st := s__law_figures) x2__law_figures x3__law_figures x4__law_figures
  have R__law_place := fun_mk (st := s__law_place) x2__law_place x3__law_place x4__law_place
  have R__law_near := fun_mk (st := s__law_near) x2__law_near x3__law_near x4__law_near
  have R__law_is_place := fun_mk (st := s__law_is_place) x2__law_is_place x3__law_is_place x4__law_is_place
  have R_is_word := funD_mk x2_is_word x3_is_word x4_is_word x5_is_word (.inl rfl)
  have R_is_place := fun_mk (st := s_is_place) x2_is_place x3_is_place x4_is_place
  have R_next_place := fun_mk (st := s_next_place) x2_next_place x3_next_place x4_next_place
  have R_between := funD_mk x2_between x3_between x4_between (.inl ⟨rfl, rfl⟩) x6_between
  have R__law_said := fun_mk (st := s__law_said) x2__law_said x3__law_said x4__law_said
  have R__law_number := fun_mk (st := s__law_number) x2__law_number x3__law_number x4__law_number
  have R__law_fitting := fun_mk (st := s__law_fitting) x2__law_fitting x3__law_fitting x4__law_fitting
  have R__law_due := fun_mk (st := s__law_due) x2__law_due x3__law_due x4__law_due
  have R__law_right := fun_mk (st := s__law_right) x2__law_right x3__law_right x4__law_right
  have R_law := fun_mk (st := s_law) x2_law x3_law x4_law
  have n_len := PySem.W.mg_none_of X G z_len
  have n_range := PySem.W.mg_none_of X G z_range
  have n_str := PySem.W.mg_none_of X G z_str
  have n_isinstance := PySem.W.mg_none_of X G z_isinstance
  have n_all := PySem.W.mg_none_of X G z_all
  have n_int := PySem.W.mg_none_of X G z_int
  have n_min := PySem.W.mg_none_of X G z_min
  have n_max := PySem.W.mg_none_of X G z_max
  have g_FIGURES : ∃ u, mg "FIGURES" = some u ∧ RelV (.str "0123456789") u := ⟨_, PySem.W.mg_of X G v_FIGURES, ⟨tk_FIGURES, rfl⟩⟩
  have g_MOST_FIGURES : ∃ u, mg "MOST_FIGURES" = some u ∧ RelV (.int 8) u := ⟨_, PySem.W.mg_of X G v_MOST_FIGURES, ⟨tk_MOST_FIGURES, rfl⟩⟩
  refine ⟨PySem.W.fnOf "law" "law" (defArgs s_law) (defBody s_law) (defScope s_law) .none kV_law dc_law pm_law an_law cd_law ct_law, fun s v => .of_eq rfl, fun base _ _ => ?_⟩
  let Z : En := ⟨l.prog, w, K, mg, base⟩
  have r_BadPlace : ExK Z "BadPlace" := ⟨C_BadPlace, _, _, _, _, PySem.W.mg_of X G y_BadPlace, PySem.F.excBase_ValueError, q_BadPlace, s_BadPlace⟩
  have r_NoRoom : ExK Z "NoRoom" := ⟨C_NoRoom, _, _, _, _, PySem.W.mg_of X G y_NoRoom, PySem.F.excBase_RuntimeError, q_NoRoom, s_NoRoom⟩
  have tk_MergeError_Refused : TabK Z ["MergeError", "Refused"] [("BadPlace", true), ("NoRoom", true)] := ⟨[(.ref C_MergeError), (.ref C_Refused)], (.cons (.inl (PySem.W.mg_of X G y_MergeError)) (.cons (.inl (PySem.W.mg_of X G y_Refused)) .nil)), (List.forall_mem_cons.mpr ⟨⟨C_BadPlace, PySem.W.mg_of X G y_BadPlace, w_tk_MergeError_Refused_BadPlace⟩, (List.forall_mem_cons.mpr ⟨⟨C_NoRoom, PySem.W.mg_of X G y_NoRoom, w_tk_MergeError_Refused_NoRoom⟩, (fun _ h => by cases h)⟩)⟩)⟩
  have ti_BadChoice_BadDeeds_BadDocument_BadLine_BadLines_BadName_BadOutcome_BadSides_BadText : TabI Z ["BadChoice", "BadDeeds", "BadDocument", "BadLine", "BadLines", "BadName", "BadOutcome", "BadSides", "BadText"] [("BadPlace", false), ("NoRoom", false)] := ⟨[(.ref C_BadChoice), (.ref C_BadDeeds), (.ref C_BadDocument), (.ref C_BadLine), (.ref C_BadLines), (.ref C_BadName), (.ref C_BadOutcome), (.ref C_BadSides), (.ref C_BadText)], (.cons (.inl (PySem.W.mg_of X G y_BadChoice)) (.cons (.inl (PySem.W.mg_of X G y_BadDeeds)) (.cons (.inl (PySem.W.mg_of X G y_BadDocument)) (.cons (.inl (PySem.W.mg_of X G y_BadLine)) (.cons (.inl (PySem.W.mg_of X G y_BadLines)) (.cons (.inl (PySem.W.mg_of X G y_BadName)) (.cons (.inl (PySem.W.mg_of X G y_BadOutcome)) (.cons (.inl (PySem.W.mg_of X G y_BadSides)) (.cons (.inl (PySem.W.mg_of X G y_BadText)) .nil))))))))), (List.forall_mem_cons.mpr ⟨⟨_, .own _, rfl⟩, (List.forall_mem_cons.mpr ⟨⟨_, .own _, rfl⟩, (List.forall_mem_cons.mpr ⟨⟨_, .own _, rfl⟩, (List.forall_mem_cons.mpr ⟨⟨_, .own _, rfl⟩, (List.forall_mem_cons.mpr ⟨⟨_, .own _, rfl⟩, (List.forall_mem_cons.mpr ⟨⟨_, .own _, rfl⟩, (List.forall_mem_cons.mpr ⟨⟨_, .own _, rfl⟩, (List.forall_mem_cons.mpr ⟨⟨_, .own _, rfl⟩, (List.forall_mem_cons.mpr ⟨⟨_, .own _, rfl⟩, (fun _ h => by cases h)⟩)⟩)⟩)⟩)⟩)⟩)⟩)⟩)⟩), (List.forall_mem_cons.mpr ⟨⟨C_BadPlace, PySem.W.mg_of X G y_BadPlace, i_BadPlace, w_ti_BadChoice_BadDeeds_BadDocument_BadLine_BadLines_BadName_BadOutcome_BadSides_BadText_BadPlace⟩, (List.forall_mem_cons.mpr ⟨⟨C_NoRoom, PySem.W.mg_of X G y_NoRoom, i_NoRoom, w_ti_BadChoice_BadDeeds_BadDocument_BadLine_BadLines_BadName_BadOutcome_BadSides_BadText_NoRoom⟩, (fun _ h => by cases h)⟩)⟩)⟩
  have ti_Busy_Faulty_NothingUnderWay : TabI Z ["Busy", "Faulty", "NothingUnderWay"] [("BadPlace", false), ("NoRoom", false)] := ⟨[(.ref C_Busy), (.ref C_Faulty), (.ref C_NothingUnderWay)], (.cons (.inl (PySem.W.mg_of X G y_Busy)) (.cons (.inl (PySem.W.mg_of X G y_Faulty)) (.cons (.inl (PySem.W.mg_of X G y_NothingUnderWay)) .nil))), (List.forall_mem_cons.mpr ⟨⟨_, .own _, rfl⟩, (List.forall_mem_cons.mpr ⟨⟨_, .own _, rfl⟩, (List.forall_mem_cons.mpr ⟨⟨_, .own _, rfl⟩, (fun _ h => by cases h)⟩)⟩)⟩), (List.forall_mem_cons.mpr ⟨⟨C_BadPlace, PySem.W.mg_of X G y_BadPlace, i_BadPlace, w_ti_Busy_Faulty_NothingUnderWay_BadPlace⟩, (List.forall_mem_cons.mpr ⟨⟨C_NoRoom, PySem.W.mg_of X G y_NoRoom, i_NoRoom, w_ti_Busy_Faulty_NothingUnderWay_NoRoom⟩, (fun _ h => by cases h)⟩)⟩)⟩
  have ti_BadPlace : TabI Z ["BadPlace"] [("BadPlace", true), ("NoRoom", false)] := ⟨[(.ref C_BadPlace)], (.cons (.inl (PySem.W.mg_of X G y_BadPlace)) .nil), (List.forall_mem_cons.mpr ⟨⟨_, .own _, rfl⟩, (fun _ h => by cases h)⟩), (List.forall_mem_cons.mpr ⟨⟨C_BadPlace, PySem.W.mg_of X G y_BadPlace, i_BadPlace, w_ti_BadPlace_BadPlace⟩, (List.forall_mem_cons.mpr ⟨⟨C_NoRoom, PySem.W.mg_of X G y_NoRoom, i_NoRoom, w_ti_BadPlace_NoRoom⟩, (fun _ h => by cases h)⟩)⟩)⟩
  have ti_NoRoom : TabI Z ["NoRoom"] [("BadPlace", false), ("NoRoom", true)] := ⟨[(.ref C_NoRoom)], (.cons (.inl (PySem.W.mg_of X G y_NoRoom)) .nil), (List.forall_mem_cons.mpr ⟨⟨_, .own _, rfl⟩, (fun _ h => by cases h)⟩), (List.forall_mem_cons.mpr ⟨⟨C_BadPlace, PySem.W.mg_of X G y_BadPlace, i_BadPlace, w_ti_NoRoom_BadPlace⟩, (List.forall_mem_cons.mpr ⟨⟨C_NoRoom, PySem.W.mg_of X G y_NoRoom, i_NoRoom, w_ti_NoRoom_NoRoom⟩, (fun _ h => by cases h)⟩)⟩)⟩
  have h__law_begin : FnAt Z.P Z.w Z.K Z.mg Z.base 1 "_law_begin" I__law_begin := t__law_begin (Z := Z) (k := 0)  R__law_begin (PySem.W.mg_of X G x1__law_begin)
  have h__law_mixed : FnAt Z.P Z.w Z.K Z.mg Z.base 1 "_law_mixed" I__law_mixed := t__law_mixed (Z := Z) (k := 0)  R__law_mixed (PySem.W.mg_of X G x1__law_mixed)
  have h__law_next : FnAt Z.P Z.w Z.K Z.mg Z.base 2 "_law_next" I__law_next := t__law_next (Z := Z) (k := 1) (h__law_mixed.mono (by decide)) n_len R__law_next (PySem.W.mg_of X G x1__law_next)
  have h__law_figures : FnAt Z.P Z.w Z.K Z.mg Z.base 3 "_law_figures" I__law_figures := t__law_figures (Z := Z) (k := 2) (h__law_next.mono (by decide)) n_range R__law_figures (PySem.W.mg_of X G x1__law_figures)
  have h__law_place : FnAt Z.P Z.w Z.K Z.mg Z.base 4 "_law_place" I__law_place := t__law_place (Z := Z) (k := 3) (h__law_next.mono (by decide)) (h__law_figures.mono (by decide)) R__law_place (PySem.W.mg_of X G x1__law_place)
  have h__law_near : FnAt Z.P Z.w Z.K Z.mg Z.base 5 "_law_near" I__law_near := t__law_near (Z := Z) (k := 4) (h__law_next.mono (by decide)) (h__law_place.mono (by decide)) n_len R__law_near (PySem.W.mg_of X G x1__law_near)
  have h__law_is_place : FnAt Z.P Z.w Z.K Z.mg Z.base 1 "_law_is_place" I__law_is_place := t__law_is_place (Z := Z) (k := 0) n_len n_str n_isinstance R__law_is_place (PySem.W.mg_of X G x1__law_is_place)
  have h_is_word : FnAt Z.P Z.w Z.K Z.mg Z.base 1 "is_word" I_is_word := t_is_word (Z := Z) (k := 0) n_all n_len n_str n_isinstance R_is_word (PySem.W.mg_of X G x1_is_word)
  have h_is_place : FnAt Z.P Z.w Z.K Z.mg Z.base 2 "is_place" I_is_place := t_is_place (Z := Z) (k := 1) (h_is_word.mono (by decide)) g_FIGURES g_MOST_FIGURES R_is_place (PySem.W.mg_of X G x1_is_place)
  have h_next_place : FnAt Z.P Z.w Z.K Z.mg Z.base 1 "next_place" I_next_place := t_next_place (Z := Z) (k := 0) n_len n_int n_str R_next_place (PySem.W.mg_of X G x1_next_place)
  have h_between : FnAt Z.P Z.w Z.K Z.mg Z.base 3 "between" I_between := t_between (Z := Z) (k := 2) (h_is_place.mono (by decide)) (h_next_place.mono (by decide)) n_range g_MOST_FIGURES r_BadPlace r_NoRoom R_between (PySem.W.mg_of X G x1_between)
  have h__law_said : FnAt Z.P Z.w Z.K Z.mg Z.base 4 "_law_said" I__law_said := t__law_said (Z := Z) (k := 3) (h_between.mono (by decide)) n_str n_isinstance n_int tk_MergeError_Refused ti_BadChoice_BadDeeds_BadDocument_BadLine_BadLines_BadName_BadOutcome_BadSides_BadText ti_Busy_Faulty_NothingUnderWay ti_BadPlace ti_NoRoom R__law_said (PySem.W.mg_of X G x1__law_said)
  have h__law_number : FnAt Z.P Z.w Z.K Z.mg Z.base 1 "_law_number" I__law_number := t__law_number (Z := Z) (k := 0) n_range n_len R__law_number (PySem.W.mg_of X G x1__law_number)
  have h__law_fitting : FnAt Z.P Z.w Z.K Z.mg Z.base 2 "_law_fitting" I__law_fitting := t__law_fitting (Z := Z) (k := 1) (h__law_number.mono (by decide)) n_int n_len R__law_fitting (PySem.W.mg_of X G x1__law_fitting)
  have h__law_due : FnAt Z.P Z.w Z.K Z.mg Z.base 3 "_law_due" I__law_due := t__law_due (Z := Z) (k := 2) (h__law_fitting.mono (by decide)) n_range n_str n_len R__law_due (PySem.W.mg_of X G x1__law_due)
  have h__law_right : FnAt Z.P Z.w Z.K Z.mg Z.base 5 "_law_right" I__law_right := t__law_right (Z := Z) (k := 4) (h__law_is_place.mono (by decide)) (h__law_said.mono (by decide)) (h__law_due.mono (by decide)) R__law_right (PySem.W.mg_of X G x1__law_right)
  exact fnG_fun R_law sc_law fun X W ent c => b_law (Z := Z) (k := 5) (h__law_begin.mono (by decide)) (h__law_place.mono (by decide)) (h__law_near.mono (by decide)) (h__law_next.mono (by decide)) (h__law_right.mono (by decide)) (h__law_said.mono (by decide)) n_len n_min n_range n_max c
end TM.K04
namespace TM.K04
open PySem PySem.Spec TM TM.P04 L2 TL
open NumText (AllDigits digitsVal)
open PyProof.Rows hiding St

abbrev cs (x : Str) : List Nat := x.cps.toList
theorem cs_len (x : Str) : (cs x).length = x.length := Array.length_toList
def allIn (w s : Str) (k : Nat) : Bool := decide (0 < w.length ∧ w.length ≤ k) && (cs w).all fun c => decide (c ∈ cs s)
theorem len_s {x : Str} {n : Nat} (h : x.length ≤ n) (hn : n ≤ 16777216) : fLen [.str x] = some (.int x.length) := fLen_s x (by omega)
theorem isi_s (x : Str) : fIsi [.str x, .ty "str"] = some (.bl true) := rfl
theorem in_one (c : Nat) (s : Str) : fIn [.str ⟨#[c]⟩, .str s] = some (.bl (decide (c ∈ cs s))) := rfl
theorem nin_one (c : Nat) (s : Str) : fNotIn [.str ⟨#[c]⟩, .str s] = some (.bl (!decide (c ∈ cs s))) := rfl
abbrev chD : Nat → D := fun c => .str ⟨#[c]⟩
theorem items_s {x : Str} {n : Nat} (h : x.length ≤ n) (hn : n ≤ 16777216) : itemsD (.str x) = some ((cs x).map chD) := by
  show (if x.length ≤ sizeLine then some ((cs x).map chD) else none) = _
  rw [if_pos (by rw [sizeLine_eq]; omega)]
theorem all_bl {α : Type} (f : α → Bool) (xs : List α) : fAll [.lst (xs.map fun a => .bl (f a))] = some (.bl (xs.all f)) := by
  have : blsD (xs.map fun a => D.bl (f a)) = some (xs.map f) := by
    induction xs with
    | nil => rfl
    | cons a xs ih => simp [blsD, ih]
  show (blsD _).map _ = _
  rw [this]
  simp [List.all_map]
theorem lt_len {n : Nat} : fLt [.int 0, .int (n : Nat)] = some (.bl (decide (0 < n))) := by
  show some (D.bl (decide ((0 : Int) < (n : Int)))) = _
  congr 2
  exact decide_eq_decide.mpr (by omega)
theorem le_len {n k : Nat} : fLe [.int (n : Nat), .int (k : Nat)] = some (.bl (decide (n ≤ k))) := by
  show some (D.bl (decide ((n : Int) ≤ (k : Int)))) = _
  congr 2
  exact decide_eq_decide.mpr (by omega)
theorem is_word_ok {w s : Str} {k n : Nat} (h : w.length ≤ n) (hn : n ≤ 100000) (S : Sto) : F_is_word [.str w, .str s, .int (k : Nat)] S = .ok (.val (.bl (allIn w s k))) [] S := by
  have m := compL_all (vs := [3]) (t := .nm 3) (m := m_is_word_0) (e0 := [(some (Slot.val (.str w))), (some (Slot.val (.str s))), (some (Slot.val (.int (k : Nat)))), none]) (S := S) chD (fun c => .bl (decide (c ∈ cs s))) (cs w) [] (by rw [cs_len]; simp; omega) fun c _ =>
    ⟨[(some (Slot.val (.str w))), (some (Slot.val (.str s))), (some (Slot.val (.int (k : Nat)))), (some (Slot.val (chD c)))], [(some (Slot.val (.str w))), (some (Slot.val (.str s))), (some (Slot.val (.int (k : Nat)))), (some (Slot.val (chD c)))], rfl, by simp only [m_is_word_0, Int.ofNat_lt, Int.ofNat_le, bind_ok, bind_exc, bind_stuck, sizeLine_eq, fMod_i, fFdiv_i, fMul_i, fMul_i1, fMul_i2, fm0, fm1, fAdd_i, fSub_i, fPow_i, fAdd_l, fAdd_t, fAdd_s, fLt_i, fLe_i, fGt_i, fGe_i, evO, resW, evR, bPrim, bC, bVar, tTru, tBool, tNotB, tAndB, tOrB, bAnd, bOr, bNot, bIf, wIf, evX, bTup, wLst, wPrim, wVal, eFrz, wCall, sOk, sRet, sSet, sIf, sSeq, sDrop, sPar, evW, setAll, Tg.asg, Tg.asgs, mMut, sPutL, bGet, sPutD, wDisp, ePub, bIxL, sPutS, mChk, mInt, D.isStr, D.isInt, D.tru, fLen_l, fLen_t, List.length_map, iVal, itemsD, iRange, plainS, wipeE, backE, wComp, wCompB, List.all_cons, List.all_nil, Slot.isVal, Bool.and_true, Bool.true_and, Bool.and_self, fsem, env0, fill, wMove, Slot.frz, List.getElem?_cons_zero, List.getElem?_cons_succ, List.set_cons_zero, List.set_cons_succ, List.map_cons, List.map_nil, List.cons_append, List.nil_append, List.reduceReplicate, Option.getD_some, List.length_cons, List.length_nil, List.getD_cons_zero, List.getD_cons_succ, Nat.reduceAdd, Nat.reduceSub, Option.map_some, if_true, if_false, ite_true, ite_false, Bool.false_eq_true, reduceIte, Nat.reduceLeDiff, Nat.reduceEqDiff, Int.reduceEq, Int.reduceNe, Int.reduceLT, Int.reduceLE, Int.reduceNeg, Int.reducePow, ne_eq, not_false_eq_true, decide_true, decide_false, true_and, and_true, true_or, or_true, and_self, Bool.not_true, Bool.not_false, reduceCtorEq, in_one], rfl⟩
  rw [List.nil_append] at m
  have a := all_bl (fun c => decide (c ∈ cs s)) (cs w)
  have l := len_s h (by omega)
  have hz : w.length ≤ 16777216 := by omega
  unfold allIn
  by_cases q1 : 0 < w.length
  · have d1 : fLt [.int 0, .int (w.length : Nat)] = some (.bl true) := by rw [lt_len, decide_eq_true q1]
    by_cases q2 : w.length ≤ k
    · have d2 : fLe [.int (w.length : Nat), .int (k : Nat)] = some (.bl true) := by rw [le_len, decide_eq_true q2]
      rw [decide_eq_true ⟨q1, q2⟩, Bool.true_and]
      simp only [F_is_word, m_is_word, bChain, D.plain, isi_s, l, hz, Int.ofNat_lt, Int.ofNat_le, bind_ok, bind_exc, bind_stuck, sizeLine_eq, fMod_i, fFdiv_i, fMul_i, fMul_i1, fMul_i2, fm0, fm1, fAdd_i, fSub_i, fPow_i, fAdd_l, fAdd_t, fAdd_s, fLt_i, fLe_i, fGt_i, fGe_i, evO, resW, evR, bPrim, bC, bVar, tTru, tBool, tNotB, tAndB, tOrB, bAnd, bOr, bNot, bIf, wIf, evX, bTup, wLst, wPrim, wVal, eFrz, wCall, sOk, sRet, sSet, sIf, sSeq, sDrop, sPar, evW, setAll, Tg.asg, Tg.asgs, mMut, sPutL, bGet, sPutD, wDisp, ePub, bIxL, sPutS, mChk, mInt, D.isStr, D.isInt, D.tru, fLen_l, fLen_t, List.length_map, iVal, itemsD, iRange, plainS, wipeE, backE, wComp, wCompB, List.all_cons, List.all_nil, Slot.isVal, Bool.and_true, Bool.true_and, Bool.and_self, fsem, env0, fill, wMove, Slot.frz, List.getElem?_cons_zero, List.getElem?_cons_succ, List.set_cons_zero, List.set_cons_succ, List.map_cons, List.map_nil, List.cons_append, List.nil_append, List.reduceReplicate, Option.getD_some, List.length_cons, List.length_nil, List.getD_cons_zero, List.getD_cons_succ, Nat.reduceAdd, Nat.reduceSub, Option.map_some, if_true, if_false, ite_true, ite_false, Bool.false_eq_true, reduceIte, Nat.reduceLeDiff, Nat.reduceEqDiff, Int.reduceEq, Int.reduceNe, Int.reduceLT, Int.reduceLE, Int.reduceNeg, Int.reducePow, ne_eq, not_false_eq_true, decide_true, decide_false, true_and, and_true, true_or, or_true, and_self, Bool.not_true, Bool.not_false, reduceCtorEq, d1, d2]
      rw [m]
      simp only [Int.ofNat_lt, Int.ofNat_le, bind_ok, bind_exc, bind_stuck, sizeLine_eq, fMod_i, fFdiv_i, fMul_i, fMul_i1, fMul_i2, fm0, fm1, fAdd_i, fSub_i, fPow_i, fAdd_l, fAdd_t, fAdd_s, fLt_i, fLe_i, fGt_i, fGe_i, evO, resW, evR, bPrim, bC, bVar, tTru, tBool, tNotB, tAndB, tOrB, bAnd, bOr, bNot, bIf, wIf, evX, bTup, wLst, wPrim, wVal, eFrz, wCall, sOk, sRet, sSet, sIf, sSeq, sDrop, sPar, evW, setAll, Tg.asg, Tg.asgs, mMut, sPutL, bGet, sPutD, wDisp, ePub, bIxL, sPutS, mChk, mInt, D.isStr, D.isInt, D.tru, fLen_l, fLen_t, List.length_map, iVal, itemsD, iRange, plainS, wipeE, backE, wComp, wCompB, List.all_cons, List.all_nil, Slot.isVal, Bool.and_true, Bool.true_and, Bool.and_self, fsem, env0, fill, wMove, Slot.frz, List.getElem?_cons_zero, List.getElem?_cons_succ, List.set_cons_zero, List.set_cons_succ, List.map_cons, List.map_nil, List.cons_append, List.nil_append, List.reduceReplicate, Option.getD_some, List.length_cons, List.length_nil, List.getD_cons_zero, List.getD_cons_succ, Nat.reduceAdd, Nat.reduceSub, Option.map_some, if_true, if_false, ite_true, ite_false, Bool.false_eq_true, reduceIte, Nat.reduceLeDiff, Nat.reduceEqDiff, Int.reduceEq, Int.reduceNe, Int.reduceLT, Int.reduceLE, Int.reduceNeg, Int.reducePow, ne_eq, not_false_eq_true, decide_true, decide_false, true_and, and_true, true_or, or_true, and_self, Bool.not_true, Bool.not_false, reduceCtorEq, a]
    · have d2 : fLe [.int (w.length : Nat), .int (k : Nat)] = some (.bl false) := by rw [le_len, decide_eq_false q2]
      rw [decide_eq_false (fun z => q2 z.2), Bool.false_and]
      simp only [F_is_word, m_is_word, bChain, D.plain, isi_s, l, Int.ofNat_lt, Int.ofNat_le, bind_ok, bind_exc, bind_stuck, sizeLine_eq, fMod_i, fFdiv_i, fMul_i, fMul_i1, fMul_i2, fm0, fm1, fAdd_i, fSub_i, fPow_i, fAdd_l, fAdd_t, fAdd_s, fLt_i, fLe_i, fGt_i, fGe_i, evO, resW, evR, bPrim, bC, bVar, tTru, tBool, tNotB, tAndB, tOrB, bAnd, bOr, bNot, bIf, wIf, evX, bTup, wLst, wPrim, wVal, eFrz, wCall, sOk, sRet, sSet, sIf, sSeq, sDrop, sPar, evW, setAll, Tg.asg, Tg.asgs, mMut, sPutL, bGet, sPutD, wDisp, ePub, bIxL, sPutS, mChk, mInt, D.isStr, D.isInt, D.tru, fLen_l, fLen_t, List.length_map, iVal, itemsD, iRange, plainS, wipeE, backE, wComp, wCompB, List.all_cons, List.all_nil, Slot.isVal, Bool.and_true, Bool.true_and, Bool.and_self, fsem, env0, fill, wMove, Slot.frz, List.getElem?_cons_zero, List.getElem?_cons_succ, List.set_cons_zero, List.set_cons_succ, List.map_cons, List.map_nil, List.cons_append, List.nil_append, List.reduceReplicate, Option.getD_some, List.length_cons, List.length_nil, List.getD_cons_zero, List.getD_cons_succ, Nat.reduceAdd, Nat.reduceSub, Option.map_some, if_true, if_false, ite_true, ite_false, Bool.false_eq_true, reduceIte, Nat.reduceLeDiff, Nat.reduceEqDiff, Int.reduceEq, Int.reduceNe, Int.reduceLT, Int.reduceLE, Int.reduceNeg, Int.reducePow, ne_eq, not_false_eq_true, decide_true, decide_false, true_and, and_true, true_or, or_true, and_self, Bool.not_true, Bool.not_false, reduceCtorEq, d1, d2]
  · have d1 : fLt [.int 0, .int (w.length : Nat)] = some (.bl false) := by rw [lt_len, decide_eq_false q1]
    rw [decide_eq_false (fun z => q1 z.1), Bool.false_and]
    simp only [F_is_word, m_is_word, bChain, D.plain, isi_s, l, Int.ofNat_lt, Int.ofNat_le, bind_ok, bind_exc, bind_stuck, sizeLine_eq, fMod_i, fFdiv_i, fMul_i, fMul_i1, fMul_i2, fm0, fm1, fAdd_i, fSub_i, fPow_i, fAdd_l, fAdd_t, fAdd_s, fLt_i, fLe_i, fGt_i, fGe_i, evO, resW, evR, bPrim, bC, bVar, tTru, tBool, tNotB, tAndB, tOrB, bAnd, bOr, bNot, bIf, wIf, evX, bTup, wLst, wPrim, wVal, eFrz, wCall, sOk, sRet, sSet, sIf, sSeq, sDrop, sPar, evW, setAll, Tg.asg, Tg.asgs, mMut, sPutL, bGet, sPutD, wDisp, ePub, bIxL, sPutS, mChk, mInt, D.isStr, D.isInt, D.tru, fLen_l, fLen_t, List.length_map, iVal, itemsD, iRange, plainS, wipeE, backE, wComp, wCompB, List.all_cons, List.all_nil, Slot.isVal, Bool.and_true, Bool.true_and, Bool.and_self, fsem, env0, fill, wMove, Slot.frz, List.getElem?_cons_zero, List.getElem?_cons_succ, List.set_cons_zero, List.set_cons_succ, List.map_cons, List.map_nil, List.cons_append, List.nil_append, List.reduceReplicate, Option.getD_some, List.length_cons, List.length_nil, List.getD_cons_zero, List.getD_cons_succ, Nat.reduceAdd, Nat.reduceSub, Option.map_some, if_true, if_false, ite_true, ite_false, Bool.false_eq_true, reduceIte, Nat.reduceLeDiff, Nat.reduceEqDiff, Int.reduceEq, Int.reduceNe, Int.reduceLT, Int.reduceLE, Int.reduceNeg, Int.reducePow, ne_eq, not_false_eq_true, decide_true, decide_false, true_and, and_true, true_or, or_true, and_self, Bool.not_true, Bool.not_false, reduceCtorEq, d1]
def figs : Str := "0123456789"
theorem ne_empty {w : Str} (h : 0 < w.length) : ∃ l c, cs w = l ++ [c] := by
  rcases List.eq_nil_or_concat (cs w) with e | ⟨l, c, e⟩
  · have := cs_len w
    rw [e] at this
    simp at this
    omega
  · exact ⟨l, c, by rw [e, List.concat_eq_append]⟩
theorem zero_s : ("0" : Str) = ⟨#[48]⟩ := by decide +kernel
theorem one_zero (c : Nat) : ((⟨#[c]⟩ : Str) = "0") ↔ c = 48 := by
  rw [zero_s]
  simp
theorem endsw_0 {w : Str} {l : List Nat} {c : Nat} (h : cs w = l ++ [c]) : Txt.endswith w "0" = decide (c = 48) := by
  have hl : w.length = l.length + 1 := by rw [← cs_len, h]; simp
  rw [zero_s]
  unfold Txt.endswith Builtin.Str.subAt
  have e1 : (⟨#[48]⟩ : Str).length = 1 := rfl
  rw [e1, hl]
  have e2 : w.cps.extract (l.length + 1 - 1) (l.length + 1 - 1 + 1) = #[c] := by
    apply Array.toList_inj.mp
    rw [Array.toList_extract]
    show List.extract (cs w) _ _ = _
    rw [h]
    simp
  rw [e2]
  simp
  rfl
theorem last_s {w : Str} {l : List Nat} {c n : Nat} (h : cs w = l ++ [c]) (hn : w.length ≤ n) (hn2 : n ≤ 16777216) : fIx [.str w, .int (-1)] = some (chD c) := by
  show (if w.length ≤ sizeLine then (atI (cs w) (-1)).map chD else none) = _
  rw [if_pos (by rw [sizeLine_eq]; omega), h, atI_last, List.getLast?_concat]
  rfl
theorem ne_0 (c : Nat) : fNe [chD c, .str "0"] = some (.bl (!decide (c = 48))) := by
  rw [ne_str]
  congr 3
  exact decide_eq_decide.mpr (one_zero c)
theorem eq_0 (c : Nat) : fEq [chD c, .str "0"] = some (.bl (decide (c = 48))) := by
  rw [eq_str]
  congr 2
  exact decide_eq_decide.mpr (one_zero c)
def isPlace (w : Str) : Bool := allIn w figs 8 && !Txt.endswith w "0"
theorem is_place_ok {w : Str} {n : Nat} (h : w.length ≤ n) (hn : n ≤ 100000) (S : Sto) : F_is_place [.str w] S = .ok (.val (.bl (isPlace w))) [] S := by
  have e := is_word_ok (s := figs) (k := 8) h hn S
  have e : F_is_word [.str w, .str "0123456789", .int 8] S = _ := e
  have en : fEndsw [.str w, .str "0"] = some (.bl (Txt.endswith w "0")) := rfl
  unfold isPlace
  by_cases q : allIn w figs 8 = true
  · rw [q] at e ⊢
    simp only [F_is_place, m_is_place, Int.ofNat_lt, Int.ofNat_le, bind_ok, bind_exc, bind_stuck, sizeLine_eq, fMod_i, fFdiv_i, fMul_i, fMul_i1, fMul_i2, fm0, fm1, fAdd_i, fSub_i, fPow_i, fAdd_l, fAdd_t, fAdd_s, fLt_i, fLe_i, fGt_i, fGe_i, evO, resW, evR, bPrim, bC, bVar, tTru, tBool, tNotB, tAndB, tOrB, bAnd, bOr, bNot, bIf, wIf, evX, bTup, wLst, wPrim, wVal, eFrz, wCall, sOk, sRet, sSet, sIf, sSeq, sDrop, sPar, evW, setAll, Tg.asg, Tg.asgs, mMut, sPutL, bGet, sPutD, wDisp, ePub, bIxL, sPutS, mChk, mInt, D.isStr, D.isInt, D.tru, fLen_l, fLen_t, List.length_map, iVal, itemsD, iRange, plainS, wipeE, backE, wComp, wCompB, List.all_cons, List.all_nil, Slot.isVal, Bool.and_true, Bool.true_and, Bool.and_self, fsem, env0, fill, wMove, Slot.frz, List.getElem?_cons_zero, List.getElem?_cons_succ, List.set_cons_zero, List.set_cons_succ, List.map_cons, List.map_nil, List.cons_append, List.nil_append, List.reduceReplicate, Option.getD_some, List.length_cons, List.length_nil, List.getD_cons_zero, List.getD_cons_succ, Nat.reduceAdd, Nat.reduceSub, Option.map_some, if_true, if_false, ite_true, ite_false, Bool.false_eq_true, reduceIte, Nat.reduceLeDiff, Nat.reduceEqDiff, Int.reduceEq, Int.reduceNe, Int.reduceLT, Int.reduceLE, Int.reduceNeg, Int.reducePow, ne_eq, not_false_eq_true, decide_true, decide_false, true_and, and_true, true_or, or_true, and_self, Bool.not_true, Bool.not_false, reduceCtorEq, e, en]
  · rw [Bool.not_eq_true] at q
    rw [q] at e ⊢
    simp only [F_is_place, m_is_place, Int.ofNat_lt, Int.ofNat_le, bind_ok, bind_exc, bind_stuck, sizeLine_eq, fMod_i, fFdiv_i, fMul_i, fMul_i1, fMul_i2, fm0, fm1, fAdd_i, fSub_i, fPow_i, fAdd_l, fAdd_t, fAdd_s, fLt_i, fLe_i, fGt_i, fGe_i, evO, resW, evR, bPrim, bC, bVar, tTru, tBool, tNotB, tAndB, tOrB, bAnd, bOr, bNot, bIf, wIf, evX, bTup, wLst, wPrim, wVal, eFrz, wCall, sOk, sRet, sSet, sIf, sSeq, sDrop, sPar, evW, setAll, Tg.asg, Tg.asgs, mMut, sPutL, bGet, sPutD, wDisp, ePub, bIxL, sPutS, mChk, mInt, D.isStr, D.isInt, D.tru, fLen_l, fLen_t, List.length_map, iVal, itemsD, iRange, plainS, wipeE, backE, wComp, wCompB, List.all_cons, List.all_nil, Slot.isVal, Bool.and_true, Bool.true_and, Bool.and_self, fsem, env0, fill, wMove, Slot.frz, List.getElem?_cons_zero, List.getElem?_cons_succ, List.set_cons_zero, List.set_cons_succ, List.map_cons, List.map_nil, List.cons_append, List.nil_append, List.reduceReplicate, Option.getD_some, List.length_cons, List.length_nil, List.getD_cons_zero, List.getD_cons_succ, Nat.reduceAdd, Nat.reduceSub, Option.map_some, if_true, if_false, ite_true, ite_false, Bool.false_eq_true, reduceIte, Nat.reduceLeDiff, Nat.reduceEqDiff, Int.reduceEq, Int.reduceNe, Int.reduceLT, Int.reduceLE, Int.reduceNeg, Int.reducePow, ne_eq, not_false_eq_true, decide_true, decide_false, true_and, and_true, true_or, or_true, and_self, Bool.not_true, Bool.not_false, reduceCtorEq, e, Bool.false_and]
theorem figs_cs : cs figs = [48, 49, 50, 51, 52, 53, 54, 55, 56, 57] := by decide +kernel
theorem in_figs {c : Nat} (h : c ∈ cs figs) : 48 ≤ c ∧ c ≤ 57 := by
  rw [figs_cs] at h
  simp at h
  omega
theorem occ_dig : (List.range' 48 10).all (fun c => decide (Builtin.Str.occurrences "0123456789" ⟨#[c]⟩ 0 ("0123456789" : Str).length 1 = [c - 48])) = true := by decide +kernel
theorem index_dig {c : Nat} (h : 48 ≤ c ∧ c ≤ 57) : fSindex [.str "0123456789", chD c] = some (.int ((c - 48 : Nat) : Int)) := by
  have := List.all_eq_true.mp occ_dig c (List.mem_range'_1.mpr (by omega))
  have := of_decide_eq_true this
  show (match Builtin.Str.occurrences "0123456789" ⟨#[c]⟩ 0 ("0123456789" : Str).length 1 with | i :: _ => some (D.int (i : Nat)) | [] => none) = _
  rw [this]
theorem negF_1' : negF [.int 1] = some (.int (-1)) := rfl
theorem eq_self (x : Str) : fEq [.str x, .str x] = some (.bl true) := by rw [eq_str, decide_eq_true rfl]
theorem ne_self (x : Str) : fNe [.str x, .str x] = some (.bl false) := by rw [ne_str, decide_eq_true rfl]; rfl

/-! ### what is drawn -/
theorem cutS_cs (x : Str) (lo hi : Option Int) : cs (cutS x lo hi) = cutL (cs x) lo hi := by
  unfold cutS cutL
  rw [cs_len]
theorem to_s {w : Str} {k : Nat} (h : w.length ≤ 16777216) : ∃ z, cs z = (cs w).take k ∧ fSl01 [.str w, .int (k : Nat)] = some (.str z) := by
  refine ⟨cutS w none (some (k : Int)), ?_, ?_⟩
  · rw [cutS_cs, cut_to]
  · show (if w.length ≤ sizeLine then some (D.str (cutS w none (some (k : Int)))) else none) = _
    rw [if_pos (by rw [sizeLine_eq]; exact h)]
/-! ### texts of figures -/
def sd (a : List Nat) : Str := ⟨a.toArray⟩
theorem cs_sd (a : List Nat) : cs (sd a) = a := rfl
theorem sd_cs (x : Str) : sd (cs x) = x := rfl
theorem sd_len (a : List Nat) : (sd a).length = a.length := by rw [← cs_len, cs_sd]
theorem sd_app (a b : List Nat) : sd a ++ sd b = sd (a ++ b) := by
  have : cs (sd a ++ sd b) = a ++ b := by
    show ((sd a) ++ (sd b)).cps.toList = _
    rw [Str.cps_append, Array.toList_append]; rfl
  rw [← this, sd_cs]
theorem sd_inj {a b : List Nat} : sd a = sd b ↔ a = b := ⟨fun h => by have := congrArg cs h; exact this, fun h => by rw [h]⟩
structure Pl (x : Str) : Prop where
  l0 : 0 < x.length
  l8 : x.length ≤ 8
  ad : AllDigits (cs x)
  last : ∃ l c, cs x = l ++ [c] ∧ c ≠ 48
theorem mem_figs {c : Nat} (h : 48 ≤ c ∧ c ≤ 57) : c ∈ cs figs := by
  rw [figs_cs]
  obtain ⟨h1, h2⟩ := h
  have : c = 48 ∨ c = 49 ∨ c = 50 ∨ c = 51 ∨ c = 52 ∨ c = 53 ∨ c = 54 ∨ c = 55 ∨ c = 56 ∨ c = 57 := by omega
  rcases this with rfl | rfl | rfl | rfl | rfl | rfl | rfl | rfl | rfl | rfl <;> simp
theorem Pl.isPlace {x : Str} (h : Pl x) : isPlace x = true := by
  obtain ⟨l, c, e, hc⟩ := h.last
  unfold K04.isPlace allIn
  rw [endsw_0 e, decide_eq_false hc, decide_eq_true ⟨h.l0, h.l8⟩, Bool.true_and, Bool.not_false, Bool.and_true, List.all_eq_true]
  exact fun d hd => decide_eq_true (mem_figs (h.ad d hd))
theorem Pl.is (S : Sto) {x : Str} (h : Pl x) : F_is_place [.str x] S = .ok (.val (.bl true)) [] S := by
  have l8 := h.l8
  rw [is_place_ok (n := 8) l8 (by omega), h.isPlace]
/-! ### int, str -/
theorem str_num (n : Nat) (h : n < 10 ^ 12) : fStrC [.int (n : Nat)] = some (.str (sd (numL n))) := by
  have e : (toString ((n : Nat) : Int) : Str) = sd (numL n) := by
    rw [← sd_cs (toString ((n : Nat) : Int) : Str)]
    exact congrArg sd (tl_num n)
  show (if ((n : Nat) : Int).natAbs.log2 < 1920 then some (D.str (toString ((n : Nat) : Int))) else none) = _
  rw [if_pos, e]
  rw [Int.natAbs_natCast]
  by_cases z : n = 0
  · subst z; decide
  · exact (Nat.log2_lt z).mpr (Nat.lt_of_lt_of_le h (Nat.le_trans (by decide : 10 ^ 12 ≤ 2 ^ 60) (Nat.pow_le_pow_right (by decide) (by decide))))
theorem int_dig {a : List Nat} (h : AllDigits a) (h0 : a ≠ []) (hl : a.length ≤ 600) : fIntC [.str (sd a)] = some (.int ((digitsVal a : Nat) : Int)) := by
  show (if (sd a).length ≤ 640 then (PySem.intText? (sd a)).map D.int else none) = _
  have e := intText_digits (x := sd a) h h0 (by rw [sd_len]; omega)
  rw [if_pos (by rw [sd_len]; omega), e]
  rfl
theorem take_sd {a : List Nat} {k : Nat} (h : a.length ≤ 10000) : fSl01 [.str (sd a), .int (k : Nat)] = some (.str (sd (a.take k))) := by
  obtain ⟨z, h1, h2⟩ := to_s (w := sd a) (k := k) (by rw [sd_len]; omega)
  rw [h2, ← sd_cs z, h1, cs_sd]
theorem zf {a : List Nat} {n : Nat} (hn : n ≤ 100) (h : AllDigits a) : fZfill [.str (sd a), .int (n : Nat)] = some (.str (sd (List.replicate (n - a.length) 48 ++ a))) := by
  have p : PadOk ((n : Nat) : Int) = true := by
    unfold PadOk Builtin.Str.tooLong fitsSsize
    have := sizeLine_eq
    simp
    omega
  show (if PadOk ((n : Nat) : Int) = true then some (D.str (Txt.zfill (sd a) ((n : Nat) : Int))) else none) = _
  rw [if_pos p]
  unfold Txt.zfill
  rw [sd_len]
  by_cases q : (n : Int) ≤ (a.length : Int)
  · rw [if_pos q, show n - a.length = 0 by omega]; rfl
  · rw [if_neg q]
    unfold zfilled
    have hz : ∀ c, (sd a).cps[0]? = some c → c ≠ 43 ∧ c ≠ 45 := fun c hc => by
      have hc : (a.toArray)[0]? = some c := hc
      rw [List.getElem?_toArray] at hc
      have := h c (List.mem_of_getElem? hc)
      omega
    split
    · rename_i e; exact absurd rfl (hz _ e).1
    · rename_i e; exact absurd rfl (hz _ e).2
    · congr 2
      show Str.mk _ = sd _
      apply congrArg Str.mk
      apply Array.toList_inj.mp
      show _ = List.replicate (n - a.length) 48 ++ a
      rw [show ((n : Nat) : Int).toNat = n from rfl]
      simp [sd]
theorem lj {a : List Nat} {n : Nat} (hn : n ≤ 100) : fLjust [.str (sd a), .int (n : Nat), .str "0"] = some (.str (sd (a ++ List.replicate (n - a.length) 48))) := by
  have p : PadOk ((n : Nat) : Int) = true := by
    unfold PadOk Builtin.Str.tooLong fitsSsize
    have := sizeLine_eq
    simp
    omega
  rw [zero_s]
  show (if PadOk ((n : Nat) : Int) = true then some (D.str (ljustC (sd a) ((n : Nat) : Int) 48)) else none) = _
  rw [if_pos p]
  unfold ljustC
  rw [sd_len]
  by_cases q : (n : Int) ≤ (a.length : Int)
  · rw [if_pos q, show n - a.length = 0 by omega, List.replicate_zero, List.append_nil]
  · rw [if_neg q]
    congr 2
    apply congrArg Str.mk
    apply Array.toList_inj.mp
    show _ = a ++ List.replicate (n - a.length) 48
    rw [show ((n : Nat) : Int).toNat = n from rfl]
    simp [sd]
theorem one_s : ("1" : Str) = sd [49] := by decide +kernel
theorem len_sd {a : List Nat} (h : a.length ≤ 100000) : fLen [.str (sd a)] = some (.int (a.length : Nat)) := by
  rw [← sd_len]
  exact len_s (n := 100000) (by rw [sd_len]; exact h) (by omega)
theorem add_sd {a b : List Nat} (h : a.length + b.length ≤ 100000) : fAdd [.str (sd a), .str (sd b)] = some (.str (sd (a ++ b))) := by
  rw [fAdd_s _ _ (by rw [sd_len, sd_len]; omega), sd_app]
theorem endsw_sd {a : List Nat} {c : Nat} : fEndsw [.str (sd (a ++ [c])), .str "0"] = some (.bl (decide (c = 48))) := by
  show some (D.bl (Txt.endswith (sd (a ++ [c])) "0")) = _
  rw [endsw_0 (l := a) (c := c) rfl]
/-! ### the place of so many figures -/
def nextD (l : List Nat) (n : Nat) : D := if frst l n < 10 ^ n then .str (sd (dg n (frst l n))) else .non
theorem gt_n (a b : Nat) : fGt [.int (a : Nat), .int (b : Nat)] = some (.bl (decide (b < a))) := by
  show some (D.bl (decide ((b : Int) < (a : Int)))) = _
  congr 2
  exact decide_eq_decide.mpr (by omega)
theorem eq_n (a b : Nat) : fEq [.int (a : Nat), .int (b : Nat)] = some (.bl (decide (a = b))) := by
  rw [eq_i]
  congr 2
  exact decide_eq_decide.mpr (by omega)
theorem p8 {n : Nat} (h : n ≤ 8) : 10 ^ n ≤ 100000000 := Nat.le_trans (Nat.pow_le_pow_right (by decide) h) (by decide)
theorem next_place_ok {l : List Nat} {n : Nat} (hl : AllDigits l) (hl8 : l.length ≤ 8) (h1 : 1 ≤ n) (h8 : n ≤ 8) (S : Sto) : F_next_place [.str (sd l), .int (n : Nat)] S = .ok (.val (nextD l n)) [] S := by
  have ln := len_sd (a := l) (by omega)
  have g := gt_n n l.length
  unfold nextD
  by_cases q : l.length < n
  · rw [decide_eq_true q] at g
    obtain ⟨e1, e2⟩ := long_dg hl q
    have j := lj (a := l) (n := n - 1) (by omega)
    have sb : ((n : Nat) : Int) - 1 = ((n - 1 : Nat) : Int) := by omega
    have ad := add_sd (a := l ++ List.replicate (n - 1 - l.length) 48) (b := [49]) (by simp; omega)
    rw [e1, ← one_s] at ad
    rw [if_pos e2]
    simp only [F_next_place, m_next_place, Int.ofNat_lt, Int.ofNat_le, bind_ok, bind_exc, bind_stuck, sizeLine_eq, fMod_i, fFdiv_i, fMul_i, fMul_i1, fMul_i2, fm0, fm1, fAdd_i, fSub_i, fPow_i, fAdd_l, fAdd_t, fAdd_s, fLt_i, fLe_i, fGt_i, fGe_i, evO, resW, evR, bPrim, bC, bVar, tTru, tBool, tNotB, tAndB, tOrB, bAnd, bOr, bNot, bIf, wIf, evX, bTup, wLst, wPrim, wVal, eFrz, wCall, sOk, sRet, sSet, sIf, sSeq, sDrop, sPar, evW, setAll, Tg.asg, Tg.asgs, mMut, sPutL, bGet, sPutD, wDisp, ePub, bIxL, sPutS, mChk, mInt, D.isStr, D.isInt, D.tru, fLen_l, fLen_t, List.length_map, iVal, itemsD, iRange, plainS, wipeE, backE, wComp, wCompB, List.all_cons, List.all_nil, Slot.isVal, Bool.and_true, Bool.true_and, Bool.and_self, fsem, env0, fill, wMove, Slot.frz, List.getElem?_cons_zero, List.getElem?_cons_succ, List.set_cons_zero, List.set_cons_succ, List.map_cons, List.map_nil, List.cons_append, List.nil_append, List.reduceReplicate, Option.getD_some, List.length_cons, List.length_nil, List.getD_cons_zero, List.getD_cons_succ, Nat.reduceAdd, Nat.reduceSub, Option.map_some, if_true, if_false, ite_true, ite_false, Bool.false_eq_true, reduceIte, Nat.reduceLeDiff, Nat.reduceEqDiff, Int.reduceEq, Int.reduceNe, Int.reduceLT, Int.reduceLE, Int.reduceNeg, Int.reducePow, ne_eq, not_false_eq_true, decide_true, decide_false, true_and, and_true, true_or, or_true, and_self, Bool.not_true, Bool.not_false, reduceCtorEq, ln, g, sb, j, ad]
  · rw [decide_eq_false q] at g
    have tk := take_sd (a := l) (k := n) (by omega)
    have pd : l.take n = pad l n := by unfold pad; rw [show n - l.length = 0 by omega]; simp
    have pa := pad_ad hl n
    have pl := pad_len l n
    have it := int_dig pa (fun z => by rw [z] at pl; simp at pl; omega) (by omega)
    rw [pd] at tk
    have lt := dv_lt pa
    rw [pl] at lt
    have p8 := p8 h8
    have ev : ((digitsVal (pad l n) : Nat) : Int) + 1 = ((digitsVal (pad l n) + 1 : Nat) : Int) := by omega
    have s1 := str_num (digitsVal (pad l n) + 1) (by omega)
    obtain ⟨a, ha⟩ := numL_last (digitsVal (pad l n) + 1)
    have en := endsw_sd (a := a) (c := 48 + (digitsVal (pad l n) + 1) % 10)
    rw [← ha] at en
    have fin : ∀ m : Nat, m < 10 ^ 12 → (∃ z, fStrC [.int (m : Nat)] = some (.str (sd (numL m))) ∧ fZfill [.str (sd (numL m)), .int (n : Nat)] = some (.str (sd (dg n m))) ∧ fLen [.str (sd (dg n m))] = some (.int ((dg n m).length : Nat)) ∧ z = true) := fun m hm => by
      have hl := numL_len (n := m) (k := 12) (by omega) hm
      exact ⟨true, str_num m hm, zf (by omega) (numL_digits m), len_sd (by unfold dg; rw [List.length_append, List.length_replicate]; omega), rfl⟩
    by_cases z : (digitsVal (pad l n) + 1) % 10 = 0
    · have fe : frst l n = digitsVal (pad l n) + 1 + 1 := by unfold frst; rw [if_pos z]
      rw [decide_eq_true (by omega)] at en
      obtain ⟨_, f1, f2, f3, _⟩ := fin (digitsVal (pad l n) + 1 + 1) (by omega)
      rw [← fe] at f1 f2 f3
      have ev2 : ((digitsVal (pad l n) + 1 : Nat) : Int) + 1 = ((frst l n : Nat) : Int) := by omega
      have eqn := eq_n (dg n (frst l n)).length n
      by_cases w : frst l n < 10 ^ n
      · rw [decide_eq_true ((dg_lenN (by omega)).mpr w)] at eqn
        rw [if_pos w]
        simp only [F_next_place, m_next_place, sAug, Int.ofNat_lt, Int.ofNat_le, bind_ok, bind_exc, bind_stuck, sizeLine_eq, fMod_i, fFdiv_i, fMul_i, fMul_i1, fMul_i2, fm0, fm1, fAdd_i, fSub_i, fPow_i, fAdd_l, fAdd_t, fAdd_s, fLt_i, fLe_i, fGt_i, fGe_i, evO, resW, evR, bPrim, bC, bVar, tTru, tBool, tNotB, tAndB, tOrB, bAnd, bOr, bNot, bIf, wIf, evX, bTup, wLst, wPrim, wVal, eFrz, wCall, sOk, sRet, sSet, sIf, sSeq, sDrop, sPar, evW, setAll, Tg.asg, Tg.asgs, mMut, sPutL, bGet, sPutD, wDisp, ePub, bIxL, sPutS, mChk, mInt, D.isStr, D.isInt, D.tru, fLen_l, fLen_t, List.length_map, iVal, itemsD, iRange, plainS, wipeE, backE, wComp, wCompB, List.all_cons, List.all_nil, Slot.isVal, Bool.and_true, Bool.true_and, Bool.and_self, fsem, env0, fill, wMove, Slot.frz, List.getElem?_cons_zero, List.getElem?_cons_succ, List.set_cons_zero, List.set_cons_succ, List.map_cons, List.map_nil, List.cons_append, List.nil_append, List.reduceReplicate, Option.getD_some, List.length_cons, List.length_nil, List.getD_cons_zero, List.getD_cons_succ, Nat.reduceAdd, Nat.reduceSub, Option.map_some, if_true, if_false, ite_true, ite_false, Bool.false_eq_true, reduceIte, Nat.reduceLeDiff, Nat.reduceEqDiff, Int.reduceEq, Int.reduceNe, Int.reduceLT, Int.reduceLE, Int.reduceNeg, Int.reducePow, ne_eq, not_false_eq_true, decide_true, decide_false, true_and, and_true, true_or, or_true, and_self, Bool.not_true, Bool.not_false, reduceCtorEq, ln, g, tk, it, ev, s1, en, ev2, f1, f2, f3, eqn]
      · rw [decide_eq_false (fun k => w ((dg_lenN (by omega)).mp k))] at eqn
        rw [if_neg w]
        simp only [F_next_place, m_next_place, sAug, Int.ofNat_lt, Int.ofNat_le, bind_ok, bind_exc, bind_stuck, sizeLine_eq, fMod_i, fFdiv_i, fMul_i, fMul_i1, fMul_i2, fm0, fm1, fAdd_i, fSub_i, fPow_i, fAdd_l, fAdd_t, fAdd_s, fLt_i, fLe_i, fGt_i, fGe_i, evO, resW, evR, bPrim, bC, bVar, tTru, tBool, tNotB, tAndB, tOrB, bAnd, bOr, bNot, bIf, wIf, evX, bTup, wLst, wPrim, wVal, eFrz, wCall, sOk, sRet, sSet, sIf, sSeq, sDrop, sPar, evW, setAll, Tg.asg, Tg.asgs, mMut, sPutL, bGet, sPutD, wDisp, ePub, bIxL, sPutS, mChk, mInt, D.isStr, D.isInt, D.tru, fLen_l, fLen_t, List.length_map, iVal, itemsD, iRange, plainS, wipeE, backE, wComp, wCompB, List.all_cons, List.all_nil, Slot.isVal, Bool.and_true, Bool.true_and, Bool.and_self, fsem, env0, fill, wMove, Slot.frz, List.getElem?_cons_zero, List.getElem?_cons_succ, List.set_cons_zero, List.set_cons_succ, List.map_cons, List.map_nil, List.cons_append, List.nil_append, List.reduceReplicate, Option.getD_some, List.length_cons, List.length_nil, List.getD_cons_zero, List.getD_cons_succ, Nat.reduceAdd, Nat.reduceSub, Option.map_some, if_true, if_false, ite_true, ite_false, Bool.false_eq_true, reduceIte, Nat.reduceLeDiff, Nat.reduceEqDiff, Int.reduceEq, Int.reduceNe, Int.reduceLT, Int.reduceLE, Int.reduceNeg, Int.reducePow, ne_eq, not_false_eq_true, decide_true, decide_false, true_and, and_true, true_or, or_true, and_self, Bool.not_true, Bool.not_false, reduceCtorEq, ln, g, tk, it, ev, s1, en, ev2, f1, f2, f3, eqn]
    · have fe : frst l n = digitsVal (pad l n) + 1 := by unfold frst; rw [if_neg z]
      rw [decide_eq_false (by omega)] at en
      obtain ⟨_, f1, f2, f3, _⟩ := fin (digitsVal (pad l n) + 1) (by omega)
      rw [← fe] at f1 f2 f3 en ev
      have eqn := eq_n (dg n (frst l n)).length n
      by_cases w : frst l n < 10 ^ n
      · rw [decide_eq_true ((dg_lenN (by omega)).mpr w)] at eqn
        rw [if_pos w]
        simp only [F_next_place, m_next_place, sAug, Int.ofNat_lt, Int.ofNat_le, bind_ok, bind_exc, bind_stuck, sizeLine_eq, fMod_i, fFdiv_i, fMul_i, fMul_i1, fMul_i2, fm0, fm1, fAdd_i, fSub_i, fPow_i, fAdd_l, fAdd_t, fAdd_s, fLt_i, fLe_i, fGt_i, fGe_i, evO, resW, evR, bPrim, bC, bVar, tTru, tBool, tNotB, tAndB, tOrB, bAnd, bOr, bNot, bIf, wIf, evX, bTup, wLst, wPrim, wVal, eFrz, wCall, sOk, sRet, sSet, sIf, sSeq, sDrop, sPar, evW, setAll, Tg.asg, Tg.asgs, mMut, sPutL, bGet, sPutD, wDisp, ePub, bIxL, sPutS, mChk, mInt, D.isStr, D.isInt, D.tru, fLen_l, fLen_t, List.length_map, iVal, itemsD, iRange, plainS, wipeE, backE, wComp, wCompB, List.all_cons, List.all_nil, Slot.isVal, Bool.and_true, Bool.true_and, Bool.and_self, fsem, env0, fill, wMove, Slot.frz, List.getElem?_cons_zero, List.getElem?_cons_succ, List.set_cons_zero, List.set_cons_succ, List.map_cons, List.map_nil, List.cons_append, List.nil_append, List.reduceReplicate, Option.getD_some, List.length_cons, List.length_nil, List.getD_cons_zero, List.getD_cons_succ, Nat.reduceAdd, Nat.reduceSub, Option.map_some, if_true, if_false, ite_true, ite_false, Bool.false_eq_true, reduceIte, Nat.reduceLeDiff, Nat.reduceEqDiff, Int.reduceEq, Int.reduceNe, Int.reduceLT, Int.reduceLE, Int.reduceNeg, Int.reducePow, ne_eq, not_false_eq_true, decide_true, decide_false, true_and, and_true, true_or, or_true, and_self, Bool.not_true, Bool.not_false, reduceCtorEq, ln, g, tk, it, ev, en, f1, f2, f3, eqn]
      · rw [decide_eq_false (fun k => w ((dg_lenN (by omega)).mp k))] at eqn
        rw [if_neg w]
        simp only [F_next_place, m_next_place, sAug, Int.ofNat_lt, Int.ofNat_le, bind_ok, bind_exc, bind_stuck, sizeLine_eq, fMod_i, fFdiv_i, fMul_i, fMul_i1, fMul_i2, fm0, fm1, fAdd_i, fSub_i, fPow_i, fAdd_l, fAdd_t, fAdd_s, fLt_i, fLe_i, fGt_i, fGe_i, evO, resW, evR, bPrim, bC, bVar, tTru, tBool, tNotB, tAndB, tOrB, bAnd, bOr, bNot, bIf, wIf, evX, bTup, wLst, wPrim, wVal, eFrz, wCall, sOk, sRet, sSet, sIf, sSeq, sDrop, sPar, evW, setAll, Tg.asg, Tg.asgs, mMut, sPutL, bGet, sPutD, wDisp, ePub, bIxL, sPutS, mChk, mInt, D.isStr, D.isInt, D.tru, fLen_l, fLen_t, List.length_map, iVal, itemsD, iRange, plainS, wipeE, backE, wComp, wCompB, List.all_cons, List.all_nil, Slot.isVal, Bool.and_true, Bool.true_and, Bool.and_self, fsem, env0, fill, wMove, Slot.frz, List.getElem?_cons_zero, List.getElem?_cons_succ, List.set_cons_zero, List.set_cons_succ, List.map_cons, List.map_nil, List.cons_append, List.nil_append, List.reduceReplicate, Option.getD_some, List.length_cons, List.length_nil, List.getD_cons_zero, List.getD_cons_succ, Nat.reduceAdd, Nat.reduceSub, Option.map_some, if_true, if_false, ite_true, ite_false, Bool.false_eq_true, reduceIte, Nat.reduceLeDiff, Nat.reduceEqDiff, Int.reduceEq, Int.reduceNe, Int.reduceLT, Int.reduceLE, Int.reduceNeg, Int.reducePow, ne_eq, not_false_eq_true, decide_true, decide_false, true_and, and_true, true_or, or_true, and_self, Bool.not_true, Bool.not_false, reduceCtorEq, ln, g, tk, it, ev, en, f1, f2, f3, eqn]

/-! ### between -/
abbrev oD : Option Str → D
  | none => .non
  | some x => .str x
def lo0 (o : Option Str) : List Nat := (o.map cs).getD []
def OkO (o : Option Str) : Prop := ∀ x, o = some x → Pl x
def badP : Option Str → Option Str → Bool
  | some a, some b => !strLt a b
  | _, _ => false
def dueS (lo hi : Option Str) : Option (List Nat) := dueFrom (lo0 lo) (hi.map cs) 1 8
theorem lo0_ad {o : Option Str} (h : OkO o) : AllDigits (lo0 o) := by
  cases o with
  | none => exact fun c hc => by cases hc
  | some x => exact (h x rfl).ad
theorem lo0_len {o : Option Str} (h : OkO o) : (lo0 o).length ≤ 8 := by
  cases o with
  | none => exact Nat.zero_le _
  | some x => have := (h x rfl).l8; rw [← cs_len] at this; exact this
theorem hi_ad {o : Option Str} (h : OkO o) : ∀ x, o.map cs = some x → AllDigits x := fun x hx => by
  cases o with
  | none => cases hx
  | some y => cases hx; exact (h y rfl).ad
theorem nn : fNotN [.non, .non] = some (.bl false) := rfl
theorem ns (x : Str) : fNotN [.str x, .non] = some (.bl true) := rfl
theorem isn : fIsN [.non, .non] = some (.bl true) := rfl
theorem iss (x : Str) : fIsN [.str x, .non] = some (.bl false) := rfl
theorem b0_ok {o : Option Str} (h : OkO o) (x0 x1 x3 : Option Slot) (S : Sto) : m_between_0 [x0, x1, (some (Slot.val (oD o))), x3] S = .ok .next [x0, x1, (some (Slot.val (oD o))), x3] S := by
  cases o with
  | none => simp only [m_between_0, Int.ofNat_lt, Int.ofNat_le, bind_ok, bind_exc, bind_stuck, sizeLine_eq, fMod_i, fFdiv_i, fMul_i, fMul_i1, fMul_i2, fm0, fm1, fAdd_i, fSub_i, fPow_i, fAdd_l, fAdd_t, fAdd_s, fLt_i, fLe_i, fGt_i, fGe_i, evO, resW, evR, bPrim, bC, bVar, tTru, tBool, tNotB, tAndB, tOrB, bAnd, bOr, bNot, bIf, wIf, evX, bTup, wLst, wPrim, wVal, eFrz, wCall, sOk, sRet, sSet, sIf, sSeq, sDrop, sPar, evW, setAll, Tg.asg, Tg.asgs, mMut, sPutL, bGet, sPutD, wDisp, ePub, bIxL, sPutS, mChk, mInt, D.isStr, D.isInt, D.tru, fLen_l, fLen_t, List.length_map, iVal, itemsD, iRange, plainS, wipeE, backE, wComp, wCompB, List.all_cons, List.all_nil, Slot.isVal, Bool.and_true, Bool.true_and, Bool.and_self, fsem, env0, fill, wMove, Slot.frz, List.getElem?_cons_zero, List.getElem?_cons_succ, List.set_cons_zero, List.set_cons_succ, List.map_cons, List.map_nil, List.cons_append, List.nil_append, List.reduceReplicate, Option.getD_some, List.length_cons, List.length_nil, List.getD_cons_zero, List.getD_cons_succ, Nat.reduceAdd, Nat.reduceSub, Option.map_some, if_true, if_false, ite_true, ite_false, Bool.false_eq_true, reduceIte, Nat.reduceLeDiff, Nat.reduceEqDiff, Int.reduceEq, Int.reduceNe, Int.reduceLT, Int.reduceLE, Int.reduceNeg, Int.reducePow, ne_eq, not_false_eq_true, decide_true, decide_false, true_and, and_true, true_or, or_true, and_self, Bool.not_true, Bool.not_false, reduceCtorEq, oD, nn]
  | some x =>
    have p := (h x rfl).is
    simp only [m_between_0, Int.ofNat_lt, Int.ofNat_le, bind_ok, bind_exc, bind_stuck, sizeLine_eq, fMod_i, fFdiv_i, fMul_i, fMul_i1, fMul_i2, fm0, fm1, fAdd_i, fSub_i, fPow_i, fAdd_l, fAdd_t, fAdd_s, fLt_i, fLe_i, fGt_i, fGe_i, evO, resW, evR, bPrim, bC, bVar, tTru, tBool, tNotB, tAndB, tOrB, bAnd, bOr, bNot, bIf, wIf, evX, bTup, wLst, wPrim, wVal, eFrz, wCall, sOk, sRet, sSet, sIf, sSeq, sDrop, sPar, evW, setAll, Tg.asg, Tg.asgs, mMut, sPutL, bGet, sPutD, wDisp, ePub, bIxL, sPutS, mChk, mInt, D.isStr, D.isInt, D.tru, fLen_l, fLen_t, List.length_map, iVal, itemsD, iRange, plainS, wipeE, backE, wComp, wCompB, List.all_cons, List.all_nil, Slot.isVal, Bool.and_true, Bool.true_and, Bool.and_self, fsem, env0, fill, wMove, Slot.frz, List.getElem?_cons_zero, List.getElem?_cons_succ, List.set_cons_zero, List.set_cons_succ, List.map_cons, List.map_nil, List.cons_append, List.nil_append, List.reduceReplicate, Option.getD_some, List.length_cons, List.length_nil, List.getD_cons_zero, List.getD_cons_succ, Nat.reduceAdd, Nat.reduceSub, Option.map_some, if_true, if_false, ite_true, ite_false, Bool.false_eq_true, reduceIte, Nat.reduceLeDiff, Nat.reduceEqDiff, Int.reduceEq, Int.reduceNe, Int.reduceLT, Int.reduceLE, Int.reduceNeg, Int.reducePow, ne_eq, not_false_eq_true, decide_true, decide_false, true_and, and_true, true_or, or_true, and_self, Bool.not_true, Bool.not_false, reduceCtorEq, oD, ns, p]
theorem lt_sd (a : List Nat) (x : Str) : fLt [.str (sd a), .str x] = some (.bl (decide (a < cs x))) := rfl
def resB (r : Option (List Nat)) (e : Env) (S : Sto) : Out Fl → Prop := fun o => match r with
  | some u => ∃ e', o = .ok (.ret (.val (.str (sd u)))) e' S
  | none => ∃ e', o = .ok .next e' S ∧ e'.length = e.length
theorem b1_loop {lo hi : Option Str} (hlo : OkO lo) (hhi : OkO hi) (S : Sto) : ∀ (k n : Nat) (x2 x3 : Option Slot), 1 ≤ n → n + k = 9 →
    match dueFrom (lo0 lo) (hi.map cs) n k with
    | some u => ∃ e', forL (.nm 3) m_between_1 ((List.range' n k).map fun i => .int (i : Nat)) [(some (Slot.val (oD lo))), (some (Slot.val (oD hi))), x2, x3] S = .ok (.ret (.val (.str (sd u)))) e' S
    | none => ∃ y2 y3, forL (.nm 3) m_between_1 ((List.range' n k).map fun i => .int (i : Nat)) [(some (Slot.val (oD lo))), (some (Slot.val (oD hi))), x2, x3] S = .ok .next [(some (Slot.val (oD lo))), (some (Slot.val (oD hi))), y2, y3] S
  | 0, n, x2, x3, _, _ => ⟨x2, x3, rfl⟩
  | k + 1, n, x2, x3, h1, hk => by
    have ih := b1_loop hlo hhi S k (n + 1)
    have np := next_place_ok (lo0_ad hlo) (lo0_len hlo) h1 (by omega) S
    have iff := okAt_iff (l := lo0 lo) (n := n) (by omega) (hi_ad hhi)
    have st : ∀ x2, (okAt (lo0 lo) (hi.map cs) n = true → ∃ e', m_between_1 [(some (Slot.val (oD lo))), (some (Slot.val (oD hi))), x2, (some (Slot.val (.int (n : Nat))))] S = .ok (.ret (.val (.str (sd (dg n (frst (lo0 lo) n)))))) e' S) ∧
        (okAt (lo0 lo) (hi.map cs) n = false → ∃ y2, m_between_1 [(some (Slot.val (oD lo))), (some (Slot.val (oD hi))), x2, (some (Slot.val (.int (n : Nat))))] S = .ok .next [(some (Slot.val (oD lo))), (some (Slot.val (oD hi))), y2, (some (Slot.val (.int (n : Nat))))] S) := by
      intro x2
      unfold nextD at np
      by_cases w : frst (lo0 lo) n < 10 ^ n
      · rw [if_pos w] at np
        cases hi with
        | none =>
          have ok : okAt (lo0 lo) none n = true := iff.mpr ⟨w, fun x hx => by cases hx⟩
          refine ⟨fun _ => ?_, fun z => by rw [show Option.map cs none = none from rfl, ok] at z; cases z⟩
          cases lo with
          | none =>
            have np : F_next_place [.str "", .int (n : Nat)] S = _ := np
            exact ⟨_, by simp only [m_between_1, Int.ofNat_lt, Int.ofNat_le, bind_ok, bind_exc, bind_stuck, sizeLine_eq, fMod_i, fFdiv_i, fMul_i, fMul_i1, fMul_i2, fm0, fm1, fAdd_i, fSub_i, fPow_i, fAdd_l, fAdd_t, fAdd_s, fLt_i, fLe_i, fGt_i, fGe_i, evO, resW, evR, bPrim, bC, bVar, tTru, tBool, tNotB, tAndB, tOrB, bAnd, bOr, bNot, bIf, wIf, evX, bTup, wLst, wPrim, wVal, eFrz, wCall, sOk, sRet, sSet, sIf, sSeq, sDrop, sPar, evW, setAll, Tg.asg, Tg.asgs, mMut, sPutL, bGet, sPutD, wDisp, ePub, bIxL, sPutS, mChk, mInt, D.isStr, D.isInt, D.tru, fLen_l, fLen_t, List.length_map, iVal, itemsD, iRange, plainS, wipeE, backE, wComp, wCompB, List.all_cons, List.all_nil, Slot.isVal, Bool.and_true, Bool.true_and, Bool.and_self, fsem, env0, fill, wMove, Slot.frz, List.getElem?_cons_zero, List.getElem?_cons_succ, List.set_cons_zero, List.set_cons_succ, List.map_cons, List.map_nil, List.cons_append, List.nil_append, List.reduceReplicate, Option.getD_some, List.length_cons, List.length_nil, List.getD_cons_zero, List.getD_cons_succ, Nat.reduceAdd, Nat.reduceSub, Option.map_some, if_true, if_false, ite_true, ite_false, Bool.false_eq_true, reduceIte, Nat.reduceLeDiff, Nat.reduceEqDiff, Int.reduceEq, Int.reduceNe, Int.reduceLT, Int.reduceLE, Int.reduceNeg, Int.reducePow, ne_eq, not_false_eq_true, decide_true, decide_false, true_and, and_true, true_or, or_true, and_self, Bool.not_true, Bool.not_false, reduceCtorEq, oD, isn, np, ns, if_true]; rfl⟩
          | some a =>
            have np : F_next_place [.str a, .int (n : Nat)] S = _ := np
            exact ⟨_, by simp only [m_between_1, Int.ofNat_lt, Int.ofNat_le, bind_ok, bind_exc, bind_stuck, sizeLine_eq, fMod_i, fFdiv_i, fMul_i, fMul_i1, fMul_i2, fm0, fm1, fAdd_i, fSub_i, fPow_i, fAdd_l, fAdd_t, fAdd_s, fLt_i, fLe_i, fGt_i, fGe_i, evO, resW, evR, bPrim, bC, bVar, tTru, tBool, tNotB, tAndB, tOrB, bAnd, bOr, bNot, bIf, wIf, evX, bTup, wLst, wPrim, wVal, eFrz, wCall, sOk, sRet, sSet, sIf, sSeq, sDrop, sPar, evW, setAll, Tg.asg, Tg.asgs, mMut, sPutL, bGet, sPutD, wDisp, ePub, bIxL, sPutS, mChk, mInt, D.isStr, D.isInt, D.tru, fLen_l, fLen_t, List.length_map, iVal, itemsD, iRange, plainS, wipeE, backE, wComp, wCompB, List.all_cons, List.all_nil, Slot.isVal, Bool.and_true, Bool.true_and, Bool.and_self, fsem, env0, fill, wMove, Slot.frz, List.getElem?_cons_zero, List.getElem?_cons_succ, List.set_cons_zero, List.set_cons_succ, List.map_cons, List.map_nil, List.cons_append, List.nil_append, List.reduceReplicate, Option.getD_some, List.length_cons, List.length_nil, List.getD_cons_zero, List.getD_cons_succ, Nat.reduceAdd, Nat.reduceSub, Option.map_some, if_true, if_false, ite_true, ite_false, Bool.false_eq_true, reduceIte, Nat.reduceLeDiff, Nat.reduceEqDiff, Int.reduceEq, Int.reduceNe, Int.reduceLT, Int.reduceLE, Int.reduceNeg, Int.reducePow, ne_eq, not_false_eq_true, decide_true, decide_false, true_and, and_true, true_or, or_true, and_self, Bool.not_true, Bool.not_false, reduceCtorEq, oD, iss, isn, np, ns]; rfl⟩
        | some b =>
          have lt := lt_sd (dg n (frst (lo0 lo) n)) b
          by_cases q : dg n (frst (lo0 lo) n) < cs b
          · have ok : okAt (lo0 lo) (some (cs b)) n = true := iff.mpr ⟨w, fun x hx => by cases hx; exact q⟩
            rw [decide_eq_true q] at lt
            refine ⟨fun _ => ?_, fun z => by rw [show Option.map cs (some b) = some (cs b) from rfl, ok] at z; cases z⟩
            cases lo with
            | none =>
              have np : F_next_place [.str "", .int (n : Nat)] S = _ := np
              exact ⟨_, by simp only [m_between_1, Int.ofNat_lt, Int.ofNat_le, bind_ok, bind_exc, bind_stuck, sizeLine_eq, fMod_i, fFdiv_i, fMul_i, fMul_i1, fMul_i2, fm0, fm1, fAdd_i, fSub_i, fPow_i, fAdd_l, fAdd_t, fAdd_s, fLt_i, fLe_i, fGt_i, fGe_i, evO, resW, evR, bPrim, bC, bVar, tTru, tBool, tNotB, tAndB, tOrB, bAnd, bOr, bNot, bIf, wIf, evX, bTup, wLst, wPrim, wVal, eFrz, wCall, sOk, sRet, sSet, sIf, sSeq, sDrop, sPar, evW, setAll, Tg.asg, Tg.asgs, mMut, sPutL, bGet, sPutD, wDisp, ePub, bIxL, sPutS, mChk, mInt, D.isStr, D.isInt, D.tru, fLen_l, fLen_t, List.length_map, iVal, itemsD, iRange, plainS, wipeE, backE, wComp, wCompB, List.all_cons, List.all_nil, Slot.isVal, Bool.and_true, Bool.true_and, Bool.and_self, fsem, env0, fill, wMove, Slot.frz, List.getElem?_cons_zero, List.getElem?_cons_succ, List.set_cons_zero, List.set_cons_succ, List.map_cons, List.map_nil, List.cons_append, List.nil_append, List.reduceReplicate, Option.getD_some, List.length_cons, List.length_nil, List.getD_cons_zero, List.getD_cons_succ, Nat.reduceAdd, Nat.reduceSub, Option.map_some, if_true, if_false, ite_true, ite_false, Bool.false_eq_true, reduceIte, Nat.reduceLeDiff, Nat.reduceEqDiff, Int.reduceEq, Int.reduceNe, Int.reduceLT, Int.reduceLE, Int.reduceNeg, Int.reducePow, ne_eq, not_false_eq_true, decide_true, decide_false, true_and, and_true, true_or, or_true, and_self, Bool.not_true, Bool.not_false, reduceCtorEq, oD, isn, iss, np, ns, lt]; rfl⟩
            | some a =>
              have np : F_next_place [.str a, .int (n : Nat)] S = _ := np
              exact ⟨_, by simp only [m_between_1, Int.ofNat_lt, Int.ofNat_le, bind_ok, bind_exc, bind_stuck, sizeLine_eq, fMod_i, fFdiv_i, fMul_i, fMul_i1, fMul_i2, fm0, fm1, fAdd_i, fSub_i, fPow_i, fAdd_l, fAdd_t, fAdd_s, fLt_i, fLe_i, fGt_i, fGe_i, evO, resW, evR, bPrim, bC, bVar, tTru, tBool, tNotB, tAndB, tOrB, bAnd, bOr, bNot, bIf, wIf, evX, bTup, wLst, wPrim, wVal, eFrz, wCall, sOk, sRet, sSet, sIf, sSeq, sDrop, sPar, evW, setAll, Tg.asg, Tg.asgs, mMut, sPutL, bGet, sPutD, wDisp, ePub, bIxL, sPutS, mChk, mInt, D.isStr, D.isInt, D.tru, fLen_l, fLen_t, List.length_map, iVal, itemsD, iRange, plainS, wipeE, backE, wComp, wCompB, List.all_cons, List.all_nil, Slot.isVal, Bool.and_true, Bool.true_and, Bool.and_self, fsem, env0, fill, wMove, Slot.frz, List.getElem?_cons_zero, List.getElem?_cons_succ, List.set_cons_zero, List.set_cons_succ, List.map_cons, List.map_nil, List.cons_append, List.nil_append, List.reduceReplicate, Option.getD_some, List.length_cons, List.length_nil, List.getD_cons_zero, List.getD_cons_succ, Nat.reduceAdd, Nat.reduceSub, Option.map_some, if_true, if_false, ite_true, ite_false, Bool.false_eq_true, reduceIte, Nat.reduceLeDiff, Nat.reduceEqDiff, Int.reduceEq, Int.reduceNe, Int.reduceLT, Int.reduceLE, Int.reduceNeg, Int.reducePow, ne_eq, not_false_eq_true, decide_true, decide_false, true_and, and_true, true_or, or_true, and_self, Bool.not_true, Bool.not_false, reduceCtorEq, oD, iss, isn, np, ns, lt]; rfl⟩
          · rw [decide_eq_false q] at lt
            refine ⟨fun z => absurd ((iff.mp z).2 _ rfl) q, fun _ => ?_⟩
            cases lo with
            | none =>
              have np : F_next_place [.str "", .int (n : Nat)] S = _ := np
              exact ⟨_, by simp only [m_between_1, Int.ofNat_lt, Int.ofNat_le, bind_ok, bind_exc, bind_stuck, sizeLine_eq, fMod_i, fFdiv_i, fMul_i, fMul_i1, fMul_i2, fm0, fm1, fAdd_i, fSub_i, fPow_i, fAdd_l, fAdd_t, fAdd_s, fLt_i, fLe_i, fGt_i, fGe_i, evO, resW, evR, bPrim, bC, bVar, tTru, tBool, tNotB, tAndB, tOrB, bAnd, bOr, bNot, bIf, wIf, evX, bTup, wLst, wPrim, wVal, eFrz, wCall, sOk, sRet, sSet, sIf, sSeq, sDrop, sPar, evW, setAll, Tg.asg, Tg.asgs, mMut, sPutL, bGet, sPutD, wDisp, ePub, bIxL, sPutS, mChk, mInt, D.isStr, D.isInt, D.tru, fLen_l, fLen_t, List.length_map, iVal, itemsD, iRange, plainS, wipeE, backE, wComp, wCompB, List.all_cons, List.all_nil, Slot.isVal, Bool.and_true, Bool.true_and, Bool.and_self, fsem, env0, fill, wMove, Slot.frz, List.getElem?_cons_zero, List.getElem?_cons_succ, List.set_cons_zero, List.set_cons_succ, List.map_cons, List.map_nil, List.cons_append, List.nil_append, List.reduceReplicate, Option.getD_some, List.length_cons, List.length_nil, List.getD_cons_zero, List.getD_cons_succ, Nat.reduceAdd, Nat.reduceSub, Option.map_some, if_true, if_false, ite_true, ite_false, Bool.false_eq_true, reduceIte, Nat.reduceLeDiff, Nat.reduceEqDiff, Int.reduceEq, Int.reduceNe, Int.reduceLT, Int.reduceLE, Int.reduceNeg, Int.reducePow, ne_eq, not_false_eq_true, decide_true, decide_false, true_and, and_true, true_or, or_true, and_self, Bool.not_true, Bool.not_false, reduceCtorEq, oD, isn, iss, np, ns, lt]; rfl⟩
            | some a =>
              have np : F_next_place [.str a, .int (n : Nat)] S = _ := np
              exact ⟨_, by simp only [m_between_1, Int.ofNat_lt, Int.ofNat_le, bind_ok, bind_exc, bind_stuck, sizeLine_eq, fMod_i, fFdiv_i, fMul_i, fMul_i1, fMul_i2, fm0, fm1, fAdd_i, fSub_i, fPow_i, fAdd_l, fAdd_t, fAdd_s, fLt_i, fLe_i, fGt_i, fGe_i, evO, resW, evR, bPrim, bC, bVar, tTru, tBool, tNotB, tAndB, tOrB, bAnd, bOr, bNot, bIf, wIf, evX, bTup, wLst, wPrim, wVal, eFrz, wCall, sOk, sRet, sSet, sIf, sSeq, sDrop, sPar, evW, setAll, Tg.asg, Tg.asgs, mMut, sPutL, bGet, sPutD, wDisp, ePub, bIxL, sPutS, mChk, mInt, D.isStr, D.isInt, D.tru, fLen_l, fLen_t, List.length_map, iVal, itemsD, iRange, plainS, wipeE, backE, wComp, wCompB, List.all_cons, List.all_nil, Slot.isVal, Bool.and_true, Bool.true_and, Bool.and_self, fsem, env0, fill, wMove, Slot.frz, List.getElem?_cons_zero, List.getElem?_cons_succ, List.set_cons_zero, List.set_cons_succ, List.map_cons, List.map_nil, List.cons_append, List.nil_append, List.reduceReplicate, Option.getD_some, List.length_cons, List.length_nil, List.getD_cons_zero, List.getD_cons_succ, Nat.reduceAdd, Nat.reduceSub, Option.map_some, if_true, if_false, ite_true, ite_false, Bool.false_eq_true, reduceIte, Nat.reduceLeDiff, Nat.reduceEqDiff, Int.reduceEq, Int.reduceNe, Int.reduceLT, Int.reduceLE, Int.reduceNeg, Int.reducePow, ne_eq, not_false_eq_true, decide_true, decide_false, true_and, and_true, true_or, or_true, and_self, Bool.not_true, Bool.not_false, reduceCtorEq, oD, iss, isn, np, ns, lt]; rfl⟩
      · rw [if_neg w] at np
        refine ⟨fun z => absurd (iff.mp z).1 w, fun _ => ?_⟩
        cases lo with
        | none =>
          have np : F_next_place [.str "", .int (n : Nat)] S = _ := np
          exact ⟨_, by simp only [m_between_1, Int.ofNat_lt, Int.ofNat_le, bind_ok, bind_exc, bind_stuck, sizeLine_eq, fMod_i, fFdiv_i, fMul_i, fMul_i1, fMul_i2, fm0, fm1, fAdd_i, fSub_i, fPow_i, fAdd_l, fAdd_t, fAdd_s, fLt_i, fLe_i, fGt_i, fGe_i, evO, resW, evR, bPrim, bC, bVar, tTru, tBool, tNotB, tAndB, tOrB, bAnd, bOr, bNot, bIf, wIf, evX, bTup, wLst, wPrim, wVal, eFrz, wCall, sOk, sRet, sSet, sIf, sSeq, sDrop, sPar, evW, setAll, Tg.asg, Tg.asgs, mMut, sPutL, bGet, sPutD, wDisp, ePub, bIxL, sPutS, mChk, mInt, D.isStr, D.isInt, D.tru, fLen_l, fLen_t, List.length_map, iVal, itemsD, iRange, plainS, wipeE, backE, wComp, wCompB, List.all_cons, List.all_nil, Slot.isVal, Bool.and_true, Bool.true_and, Bool.and_self, fsem, env0, fill, wMove, Slot.frz, List.getElem?_cons_zero, List.getElem?_cons_succ, List.set_cons_zero, List.set_cons_succ, List.map_cons, List.map_nil, List.cons_append, List.nil_append, List.reduceReplicate, Option.getD_some, List.length_cons, List.length_nil, List.getD_cons_zero, List.getD_cons_succ, Nat.reduceAdd, Nat.reduceSub, Option.map_some, if_true, if_false, ite_true, ite_false, Bool.false_eq_true, reduceIte, Nat.reduceLeDiff, Nat.reduceEqDiff, Int.reduceEq, Int.reduceNe, Int.reduceLT, Int.reduceLE, Int.reduceNeg, Int.reducePow, ne_eq, not_false_eq_true, decide_true, decide_false, true_and, and_true, true_or, or_true, and_self, Bool.not_true, Bool.not_false, reduceCtorEq, oD, isn, np, nn]; rfl⟩
        | some a =>
          have np : F_next_place [.str a, .int (n : Nat)] S = _ := np
          exact ⟨_, by simp only [m_between_1, Int.ofNat_lt, Int.ofNat_le, bind_ok, bind_exc, bind_stuck, sizeLine_eq, fMod_i, fFdiv_i, fMul_i, fMul_i1, fMul_i2, fm0, fm1, fAdd_i, fSub_i, fPow_i, fAdd_l, fAdd_t, fAdd_s, fLt_i, fLe_i, fGt_i, fGe_i, evO, resW, evR, bPrim, bC, bVar, tTru, tBool, tNotB, tAndB, tOrB, bAnd, bOr, bNot, bIf, wIf, evX, bTup, wLst, wPrim, wVal, eFrz, wCall, sOk, sRet, sSet, sIf, sSeq, sDrop, sPar, evW, setAll, Tg.asg, Tg.asgs, mMut, sPutL, bGet, sPutD, wDisp, ePub, bIxL, sPutS, mChk, mInt, D.isStr, D.isInt, D.tru, fLen_l, fLen_t, List.length_map, iVal, itemsD, iRange, plainS, wipeE, backE, wComp, wCompB, List.all_cons, List.all_nil, Slot.isVal, Bool.and_true, Bool.true_and, Bool.and_self, fsem, env0, fill, wMove, Slot.frz, List.getElem?_cons_zero, List.getElem?_cons_succ, List.set_cons_zero, List.set_cons_succ, List.map_cons, List.map_nil, List.cons_append, List.nil_append, List.reduceReplicate, Option.getD_some, List.length_cons, List.length_nil, List.getD_cons_zero, List.getD_cons_succ, Nat.reduceAdd, Nat.reduceSub, Option.map_some, if_true, if_false, ite_true, ite_false, Bool.false_eq_true, reduceIte, Nat.reduceLeDiff, Nat.reduceEqDiff, Int.reduceEq, Int.reduceNe, Int.reduceLT, Int.reduceLE, Int.reduceNeg, Int.reducePow, ne_eq, not_false_eq_true, decide_true, decide_false, true_and, and_true, true_or, or_true, and_self, Bool.not_true, Bool.not_false, reduceCtorEq, oD, iss, np, nn]; rfl⟩
    rw [List.range'_succ, List.map_cons]
    unfold dueFrom
    by_cases q : okAt (lo0 lo) (hi.map cs) n = true
    · obtain ⟨e', z⟩ := (st x2).1 q
      rw [if_pos q]
      refine ⟨e', ?_⟩
      rw [forL]
      simp only [Tg.asg, List.set_cons_succ, List.set_cons_zero, z, bind_ok]
    · rw [if_neg q]
      obtain ⟨y2, z⟩ := (st x2).2 (by simpa using q)
      have fs : ∀ ds, forL (.nm 3) m_between_1 (.int (n : Nat) :: ds) [(some (Slot.val (oD lo))), (some (Slot.val (oD hi))), x2, x3] S = forL (.nm 3) m_between_1 ds [(some (Slot.val (oD lo))), (some (Slot.val (oD hi))), y2, (some (Slot.val (.int (n : Nat))))] S := fun ds => forL_step rfl z ds
      have ih := ih y2 (some (Slot.val (.int (n : Nat)))) (by omega) (by omega)
      rw [fs]
      exact ih
theorem r18 : range2 [.int 1, .int (8 + 1)] = some ((List.range' 1 8).map fun i => .int (i : Nat)) := (range2_ok 1 9 (by omega) (by omega)).trans rfl
theorem r19 : range2 [.int 1, .int 9] = some ((List.range' 1 8).map fun i => .int (i : Nat)) := (range2_ok 1 9 (by omega) (by omega)).trans rfl
theorem a89 : fAdd [.int 8, .int 1] = some (.int 9) := rfl
theorem ge_ss (a b : Str) : fGe [.str a, .str b] = some (.bl (!strLt a b)) := rfl
def exP : D := .exn "BadPlace" [] []
def exR : D := .exn "NoRoom" [] []
theorem between_ok {lo hi : Option Str} (hlo : OkO lo) (hhi : OkO hi) (S : Sto) : F_between [oD lo, oD hi] S = if badP lo hi = true then .exc exP [] S else match dueS lo hi with
    | some u => .ok (.val (.str (sd u))) [] S
    | none => .exc exR [] S := by
  have s1 := b0_ok hlo (some (Slot.val (oD lo))) (some (Slot.val (oD hi))) none S
  have s2 := b0_ok hhi (some (Slot.val (oD lo))) (some (Slot.val (oD hi))) none S
  have l1 : forL (.nm 2) m_between_0 [oD lo, oD hi] [(some (Slot.val (oD lo))), (some (Slot.val (oD hi))), none, none] S = .ok .next [(some (Slot.val (oD lo))), (some (Slot.val (oD hi))), (some (Slot.val (oD hi))), none] S := by
    rw [forL_step rfl s1, forL_step rfl s2]; rfl
  have lp := b1_loop hlo hhi S 8 1 (some (Slot.val (oD hi))) none (by omega) (by omega)
  have main : ∀ o, (match dueS lo hi with
      | some u => ∃ e', o = Out.ok (Fl.ret (.val (.str (sd u)))) e' S
      | none => ∃ y2 y3, o = .ok .next [(some (Slot.val (oD lo))), (some (Slot.val (oD hi))), y2, y3] S) → forL (.nm 3) m_between_1 ((List.range' 1 8).map fun i => .int (i : Nat)) [(some (Slot.val (oD lo))), (some (Slot.val (oD hi))), (some (Slot.val (oD hi))), none] S = o → badP lo hi = false →
      F_between [oD lo, oD hi] S = match dueS lo hi with
        | some u => .ok (.val (.str (sd u))) [] S
        | none => .exc exR [] S := by
    intro o ho hf hb
    cases q : dueS lo hi with
    | some u =>
      rw [q] at ho
      obtain ⟨e', rfl⟩ := ho
      cases lo with
      | none => cases hi <;> simp only [F_between, m_between, sRaise, sFor, Int.ofNat_lt, Int.ofNat_le, bind_ok, bind_exc, bind_stuck, sizeLine_eq, fMod_i, fFdiv_i, fMul_i, fMul_i1, fMul_i2, fm0, fm1, fAdd_i, fSub_i, fPow_i, fAdd_l, fAdd_t, fAdd_s, fLt_i, fLe_i, fGt_i, fGe_i, evO, resW, evR, bPrim, bC, bVar, tTru, tBool, tNotB, tAndB, tOrB, bAnd, bOr, bNot, bIf, wIf, evX, bTup, wLst, wPrim, wVal, eFrz, wCall, sOk, sRet, sSet, sIf, sSeq, sDrop, sPar, evW, setAll, Tg.asg, Tg.asgs, mMut, sPutL, bGet, sPutD, wDisp, ePub, bIxL, sPutS, mChk, mInt, D.isStr, D.isInt, D.tru, fLen_l, fLen_t, List.length_map, iVal, itemsD, iRange, plainS, wipeE, backE, wComp, wCompB, List.all_cons, List.all_nil, Slot.isVal, Bool.and_true, Bool.true_and, Bool.and_self, fsem, env0, fill, wMove, Slot.frz, List.getElem?_cons_zero, List.getElem?_cons_succ, List.set_cons_zero, List.set_cons_succ, List.map_cons, List.map_nil, List.cons_append, List.nil_append, List.reduceReplicate, Option.getD_some, List.length_cons, List.length_nil, List.getD_cons_zero, List.getD_cons_succ, Nat.reduceAdd, Nat.reduceSub, Option.map_some, if_true, if_false, ite_true, ite_false, Bool.false_eq_true, reduceIte, Nat.reduceLeDiff, Nat.reduceEqDiff, Int.reduceEq, Int.reduceNe, Int.reduceLT, Int.reduceLE, Int.reduceNeg, Int.reducePow, ne_eq, not_false_eq_true, decide_true, decide_false, true_and, and_true, true_or, or_true, and_self, Bool.not_true, Bool.not_false, reduceCtorEq, oD, l1, nn, r18, hf]
      | some a =>
        cases hi with
        | none => simp only [F_between, m_between, sRaise, sFor, Int.ofNat_lt, Int.ofNat_le, bind_ok, bind_exc, bind_stuck, sizeLine_eq, fMod_i, fFdiv_i, fMul_i, fMul_i1, fMul_i2, fm0, fm1, fAdd_i, fSub_i, fPow_i, fAdd_l, fAdd_t, fAdd_s, fLt_i, fLe_i, fGt_i, fGe_i, evO, resW, evR, bPrim, bC, bVar, tTru, tBool, tNotB, tAndB, tOrB, bAnd, bOr, bNot, bIf, wIf, evX, bTup, wLst, wPrim, wVal, eFrz, wCall, sOk, sRet, sSet, sIf, sSeq, sDrop, sPar, evW, setAll, Tg.asg, Tg.asgs, mMut, sPutL, bGet, sPutD, wDisp, ePub, bIxL, sPutS, mChk, mInt, D.isStr, D.isInt, D.tru, fLen_l, fLen_t, List.length_map, iVal, itemsD, iRange, plainS, wipeE, backE, wComp, wCompB, List.all_cons, List.all_nil, Slot.isVal, Bool.and_true, Bool.true_and, Bool.and_self, fsem, env0, fill, wMove, Slot.frz, List.getElem?_cons_zero, List.getElem?_cons_succ, List.set_cons_zero, List.set_cons_succ, List.map_cons, List.map_nil, List.cons_append, List.nil_append, List.reduceReplicate, Option.getD_some, List.length_cons, List.length_nil, List.getD_cons_zero, List.getD_cons_succ, Nat.reduceAdd, Nat.reduceSub, Option.map_some, if_true, if_false, ite_true, ite_false, Bool.false_eq_true, reduceIte, Nat.reduceLeDiff, Nat.reduceEqDiff, Int.reduceEq, Int.reduceNe, Int.reduceLT, Int.reduceLE, Int.reduceNeg, Int.reducePow, ne_eq, not_false_eq_true, decide_true, decide_false, true_and, and_true, true_or, or_true, and_self, Bool.not_true, Bool.not_false, reduceCtorEq, oD, l1, nn, ns, r18, hf]
        | some b =>
          have hb : (!strLt a b) = false := hb
          have ge := ge_ss a b
          rw [hb] at ge
          simp only [F_between, m_between, sRaise, sFor, Int.ofNat_lt, Int.ofNat_le, bind_ok, bind_exc, bind_stuck, sizeLine_eq, fMod_i, fFdiv_i, fMul_i, fMul_i1, fMul_i2, fm0, fm1, fAdd_i, fSub_i, fPow_i, fAdd_l, fAdd_t, fAdd_s, fLt_i, fLe_i, fGt_i, fGe_i, evO, resW, evR, bPrim, bC, bVar, tTru, tBool, tNotB, tAndB, tOrB, bAnd, bOr, bNot, bIf, wIf, evX, bTup, wLst, wPrim, wVal, eFrz, wCall, sOk, sRet, sSet, sIf, sSeq, sDrop, sPar, evW, setAll, Tg.asg, Tg.asgs, mMut, sPutL, bGet, sPutD, wDisp, ePub, bIxL, sPutS, mChk, mInt, D.isStr, D.isInt, D.tru, fLen_l, fLen_t, List.length_map, iVal, itemsD, iRange, plainS, wipeE, backE, wComp, wCompB, List.all_cons, List.all_nil, Slot.isVal, Bool.and_true, Bool.true_and, Bool.and_self, fsem, env0, fill, wMove, Slot.frz, List.getElem?_cons_zero, List.getElem?_cons_succ, List.set_cons_zero, List.set_cons_succ, List.map_cons, List.map_nil, List.cons_append, List.nil_append, List.reduceReplicate, Option.getD_some, List.length_cons, List.length_nil, List.getD_cons_zero, List.getD_cons_succ, Nat.reduceAdd, Nat.reduceSub, Option.map_some, if_true, if_false, ite_true, ite_false, Bool.false_eq_true, reduceIte, Nat.reduceLeDiff, Nat.reduceEqDiff, Int.reduceEq, Int.reduceNe, Int.reduceLT, Int.reduceLE, Int.reduceNeg, Int.reducePow, ne_eq, not_false_eq_true, decide_true, decide_false, true_and, and_true, true_or, or_true, and_self, Bool.not_true, Bool.not_false, reduceCtorEq, oD, l1, ns, ge, r18, hf]
    | none =>
      rw [q] at ho
      obtain ⟨y2, y3, rfl⟩ := ho
      cases lo with
      | none => cases hi <;> simp only [F_between, m_between, sRaise, sFor, Int.ofNat_lt, Int.ofNat_le, bind_ok, bind_exc, bind_stuck, sizeLine_eq, fMod_i, fFdiv_i, fMul_i, fMul_i1, fMul_i2, fm0, fm1, fAdd_i, fSub_i, fPow_i, fAdd_l, fAdd_t, fAdd_s, fLt_i, fLe_i, fGt_i, fGe_i, evO, resW, evR, bPrim, bC, bVar, tTru, tBool, tNotB, tAndB, tOrB, bAnd, bOr, bNot, bIf, wIf, evX, bTup, wLst, wPrim, wVal, eFrz, wCall, sOk, sRet, sSet, sIf, sSeq, sDrop, sPar, evW, setAll, Tg.asg, Tg.asgs, mMut, sPutL, bGet, sPutD, wDisp, ePub, bIxL, sPutS, mChk, mInt, D.isStr, D.isInt, D.tru, fLen_l, fLen_t, List.length_map, iVal, itemsD, iRange, plainS, wipeE, backE, wComp, wCompB, List.all_cons, List.all_nil, Slot.isVal, Bool.and_true, Bool.true_and, Bool.and_self, fsem, env0, fill, wMove, Slot.frz, List.getElem?_cons_zero, List.getElem?_cons_succ, List.set_cons_zero, List.set_cons_succ, List.map_cons, List.map_nil, List.cons_append, List.nil_append, List.reduceReplicate, Option.getD_some, List.length_cons, List.length_nil, List.getD_cons_zero, List.getD_cons_succ, Nat.reduceAdd, Nat.reduceSub, Option.map_some, if_true, if_false, ite_true, ite_false, Bool.false_eq_true, reduceIte, Nat.reduceLeDiff, Nat.reduceEqDiff, Int.reduceEq, Int.reduceNe, Int.reduceLT, Int.reduceLE, Int.reduceNeg, Int.reducePow, ne_eq, not_false_eq_true, decide_true, decide_false, true_and, and_true, true_or, or_true, and_self, Bool.not_true, Bool.not_false, reduceCtorEq, oD, l1, nn, r18, hf, exR]
      | some a =>
        cases hi with
        | none => simp only [F_between, m_between, sRaise, sFor, Int.ofNat_lt, Int.ofNat_le, bind_ok, bind_exc, bind_stuck, sizeLine_eq, fMod_i, fFdiv_i, fMul_i, fMul_i1, fMul_i2, fm0, fm1, fAdd_i, fSub_i, fPow_i, fAdd_l, fAdd_t, fAdd_s, fLt_i, fLe_i, fGt_i, fGe_i, evO, resW, evR, bPrim, bC, bVar, tTru, tBool, tNotB, tAndB, tOrB, bAnd, bOr, bNot, bIf, wIf, evX, bTup, wLst, wPrim, wVal, eFrz, wCall, sOk, sRet, sSet, sIf, sSeq, sDrop, sPar, evW, setAll, Tg.asg, Tg.asgs, mMut, sPutL, bGet, sPutD, wDisp, ePub, bIxL, sPutS, mChk, mInt, D.isStr, D.isInt, D.tru, fLen_l, fLen_t, List.length_map, iVal, itemsD, iRange, plainS, wipeE, backE, wComp, wCompB, List.all_cons, List.all_nil, Slot.isVal, Bool.and_true, Bool.true_and, Bool.and_self, fsem, env0, fill, wMove, Slot.frz, List.getElem?_cons_zero, List.getElem?_cons_succ, List.set_cons_zero, List.set_cons_succ, List.map_cons, List.map_nil, List.cons_append, List.nil_append, List.reduceReplicate, Option.getD_some, List.length_cons, List.length_nil, List.getD_cons_zero, List.getD_cons_succ, Nat.reduceAdd, Nat.reduceSub, Option.map_some, if_true, if_false, ite_true, ite_false, Bool.false_eq_true, reduceIte, Nat.reduceLeDiff, Nat.reduceEqDiff, Int.reduceEq, Int.reduceNe, Int.reduceLT, Int.reduceLE, Int.reduceNeg, Int.reducePow, ne_eq, not_false_eq_true, decide_true, decide_false, true_and, and_true, true_or, or_true, and_self, Bool.not_true, Bool.not_false, reduceCtorEq, oD, l1, nn, ns, r18, hf, exR]
        | some b =>
          have hb : (!strLt a b) = false := hb
          have ge := ge_ss a b
          rw [hb] at ge
          simp only [F_between, m_between, sRaise, sFor, Int.ofNat_lt, Int.ofNat_le, bind_ok, bind_exc, bind_stuck, sizeLine_eq, fMod_i, fFdiv_i, fMul_i, fMul_i1, fMul_i2, fm0, fm1, fAdd_i, fSub_i, fPow_i, fAdd_l, fAdd_t, fAdd_s, fLt_i, fLe_i, fGt_i, fGe_i, evO, resW, evR, bPrim, bC, bVar, tTru, tBool, tNotB, tAndB, tOrB, bAnd, bOr, bNot, bIf, wIf, evX, bTup, wLst, wPrim, wVal, eFrz, wCall, sOk, sRet, sSet, sIf, sSeq, sDrop, sPar, evW, setAll, Tg.asg, Tg.asgs, mMut, sPutL, bGet, sPutD, wDisp, ePub, bIxL, sPutS, mChk, mInt, D.isStr, D.isInt, D.tru, fLen_l, fLen_t, List.length_map, iVal, itemsD, iRange, plainS, wipeE, backE, wComp, wCompB, List.all_cons, List.all_nil, Slot.isVal, Bool.and_true, Bool.true_and, Bool.and_self, fsem, env0, fill, wMove, Slot.frz, List.getElem?_cons_zero, List.getElem?_cons_succ, List.set_cons_zero, List.set_cons_succ, List.map_cons, List.map_nil, List.cons_append, List.nil_append, List.reduceReplicate, Option.getD_some, List.length_cons, List.length_nil, List.getD_cons_zero, List.getD_cons_succ, Nat.reduceAdd, Nat.reduceSub, Option.map_some, if_true, if_false, ite_true, ite_false, Bool.false_eq_true, reduceIte, Nat.reduceLeDiff, Nat.reduceEqDiff, Int.reduceEq, Int.reduceNe, Int.reduceLT, Int.reduceLE, Int.reduceNeg, Int.reducePow, ne_eq, not_false_eq_true, decide_true, decide_false, true_and, and_true, true_or, or_true, and_self, Bool.not_true, Bool.not_false, reduceCtorEq, oD, l1, ns, ge, r18, hf, exR]
  by_cases hb : badP lo hi = true
  · rw [if_pos hb]
    cases lo with
    | none => cases hb
    | some a =>
      cases hi with
      | none => cases hb
      | some b =>
        have hb : (!strLt a b) = true := hb
        have ge := ge_ss a b
        rw [hb] at ge
        simp only [F_between, m_between, sRaise, sFor, Int.ofNat_lt, Int.ofNat_le, bind_ok, bind_exc, bind_stuck, sizeLine_eq, fMod_i, fFdiv_i, fMul_i, fMul_i1, fMul_i2, fm0, fm1, fAdd_i, fSub_i, fPow_i, fAdd_l, fAdd_t, fAdd_s, fLt_i, fLe_i, fGt_i, fGe_i, evO, resW, evR, bPrim, bC, bVar, tTru, tBool, tNotB, tAndB, tOrB, bAnd, bOr, bNot, bIf, wIf, evX, bTup, wLst, wPrim, wVal, eFrz, wCall, sOk, sRet, sSet, sIf, sSeq, sDrop, sPar, evW, setAll, Tg.asg, Tg.asgs, mMut, sPutL, bGet, sPutD, wDisp, ePub, bIxL, sPutS, mChk, mInt, D.isStr, D.isInt, D.tru, fLen_l, fLen_t, List.length_map, iVal, itemsD, iRange, plainS, wipeE, backE, wComp, wCompB, List.all_cons, List.all_nil, Slot.isVal, Bool.and_true, Bool.true_and, Bool.and_self, fsem, env0, fill, wMove, Slot.frz, List.getElem?_cons_zero, List.getElem?_cons_succ, List.set_cons_zero, List.set_cons_succ, List.map_cons, List.map_nil, List.cons_append, List.nil_append, List.reduceReplicate, Option.getD_some, List.length_cons, List.length_nil, List.getD_cons_zero, List.getD_cons_succ, Nat.reduceAdd, Nat.reduceSub, Option.map_some, if_true, if_false, ite_true, ite_false, Bool.false_eq_true, reduceIte, Nat.reduceLeDiff, Nat.reduceEqDiff, Int.reduceEq, Int.reduceNe, Int.reduceLT, Int.reduceLE, Int.reduceNeg, Int.reducePow, ne_eq, not_false_eq_true, decide_true, decide_false, true_and, and_true, true_or, or_true, and_self, Bool.not_true, Bool.not_false, reduceCtorEq, oD, l1, ns, ge, exP]
  · rw [if_neg hb]
    refine main _ ?_ rfl (by simpa using hb)
    unfold dueS
    exact lp

/-! ### what the law hears -/
theorem lk1 : List.lookup ("BadPlace" : Str) [("BadPlace", true), ("NoRoom", true)] = some true := by decide +kernel
theorem lk2 : List.lookup ("NoRoom" : Str) [("BadPlace", true), ("NoRoom", true)] = some true := by decide +kernel
theorem isx {tab : List (Str × Bool)} {c : Str} {b : Bool} (h : tab.lookup c = some b) : fIsx tab [.exn c [] []] = some (.bl b) := by
  show (tab.lookup c).map D.bl = _
  rw [h]; rfl
theorem t1 : fIsx [("BadPlace", false), ("NoRoom", false)] [.exn "BadPlace" [] []] = some (.bl false) := isx (by decide +kernel)
theorem t2 : fIsx [("BadPlace", false), ("NoRoom", false)] [.exn "NoRoom" [] []] = some (.bl false) := isx (by decide +kernel)
theorem t3 : fIsx [("BadPlace", true), ("NoRoom", false)] [.exn "BadPlace" [] []] = some (.bl true) := isx (by decide +kernel)
theorem t4 : fIsx [("BadPlace", true), ("NoRoom", false)] [.exn "NoRoom" [] []] = some (.bl false) := isx (by decide +kernel)
theorem t5 : fIsx [("BadPlace", false), ("NoRoom", true)] [.exn "BadPlace" [] []] = some (.bl false) := isx (by decide +kernel)
theorem t6 : fIsx [("BadPlace", false), ("NoRoom", true)] [.exn "NoRoom" [] []] = some (.bl true) := isx (by decide +kernel)
theorem in0 : fIntC [.bl false] = some (.int 0) := rfl
theorem in1 : fIntC [.bl true] = some (.int 1) := rfl
theorem isE (ns : List Str) (vs : List D) (c : Str) : fIsN [.exn c ns vs, .non] = some (.bl false) := rfl
theorem ixa : fIx [.lst [.str "", .str "bad"], .int 0] = some (.str "") := rfl
theorem ixb : fIx [.lst [.str "", .str "bad"], .int 1] = some (.str "bad") := rfl
theorem ixc : fIx [.lst [.str "", .str "no room"], .int 0] = some (.str "") := rfl
theorem ixd : fIx [.lst [.str "", .str "no room"], .int 1] = some (.str "no room") := rfl
theorem ada : fAdd [.str "bad", .str ""] = some (.str "bad") := (fAdd_s _ _ (by decide +kernel)).trans (congrArg (fun z => some (D.str z)) (by decide +kernel))
theorem adb : fAdd [.str "", .str "no room"] = some (.str "no room") := (fAdd_s _ _ (by decide +kernel)).trans (congrArg (fun z => some (D.str z)) (by decide +kernel))
theorem said_bad {d1 d2 : D} {S : Sto} (h : F_between [d1, d2] S = .exc exP [] S) : F__law_said [d1, d2] S = .ok (.val (.str "bad")) [] S := by
  unfold exP at h
  simp only [F__law_said, m__law_said, sTry, hdlS, dropO, Int.ofNat_lt, Int.ofNat_le, bind_ok, bind_exc, bind_stuck, sizeLine_eq, fMod_i, fFdiv_i, fMul_i, fMul_i1, fMul_i2, fm0, fm1, fAdd_i, fSub_i, fPow_i, fAdd_l, fAdd_t, fAdd_s, fLt_i, fLe_i, fGt_i, fGe_i, evO, resW, evR, bPrim, bC, bVar, tTru, tBool, tNotB, tAndB, tOrB, bAnd, bOr, bNot, bIf, wIf, evX, bTup, wLst, wPrim, wVal, eFrz, wCall, sOk, sRet, sSet, sIf, sSeq, sDrop, sPar, evW, setAll, Tg.asg, Tg.asgs, mMut, sPutL, bGet, sPutD, wDisp, ePub, bIxL, sPutS, mChk, mInt, D.isStr, D.isInt, D.tru, fLen_l, fLen_t, List.length_map, iVal, itemsD, iRange, plainS, wipeE, backE, wComp, wCompB, List.all_cons, List.all_nil, Slot.isVal, Bool.and_true, Bool.true_and, Bool.and_self, fsem, env0, fill, wMove, Slot.frz, List.getElem?_cons_zero, List.getElem?_cons_succ, List.set_cons_zero, List.set_cons_succ, List.map_cons, List.map_nil, List.cons_append, List.nil_append, List.reduceReplicate, Option.getD_some, List.length_cons, List.length_nil, List.getD_cons_zero, List.getD_cons_succ, Nat.reduceAdd, Nat.reduceSub, Option.map_some, if_true, if_false, ite_true, ite_false, Bool.false_eq_true, reduceIte, Nat.reduceLeDiff, Nat.reduceEqDiff, Int.reduceEq, Int.reduceNe, Int.reduceLT, Int.reduceLE, Int.reduceNeg, Int.reducePow, ne_eq, not_false_eq_true, decide_true, decide_false, true_and, and_true, true_or, or_true, and_self, Bool.not_true, Bool.not_false, reduceCtorEq, h, lk1, isE, t1, t3, t5, in0, in1, ixb, ixc, ada]
theorem said_room {d1 d2 : D} {S : Sto} (h : F_between [d1, d2] S = .exc exR [] S) : F__law_said [d1, d2] S = .ok (.val (.str "no room")) [] S := by
  unfold exR at h
  simp only [F__law_said, m__law_said, sTry, hdlS, dropO, Int.ofNat_lt, Int.ofNat_le, bind_ok, bind_exc, bind_stuck, sizeLine_eq, fMod_i, fFdiv_i, fMul_i, fMul_i1, fMul_i2, fm0, fm1, fAdd_i, fSub_i, fPow_i, fAdd_l, fAdd_t, fAdd_s, fLt_i, fLe_i, fGt_i, fGe_i, evO, resW, evR, bPrim, bC, bVar, tTru, tBool, tNotB, tAndB, tOrB, bAnd, bOr, bNot, bIf, wIf, evX, bTup, wLst, wPrim, wVal, eFrz, wCall, sOk, sRet, sSet, sIf, sSeq, sDrop, sPar, evW, setAll, Tg.asg, Tg.asgs, mMut, sPutL, bGet, sPutD, wDisp, ePub, bIxL, sPutS, mChk, mInt, D.isStr, D.isInt, D.tru, fLen_l, fLen_t, List.length_map, iVal, itemsD, iRange, plainS, wipeE, backE, wComp, wCompB, List.all_cons, List.all_nil, Slot.isVal, Bool.and_true, Bool.true_and, Bool.and_self, fsem, env0, fill, wMove, Slot.frz, List.getElem?_cons_zero, List.getElem?_cons_succ, List.set_cons_zero, List.set_cons_succ, List.map_cons, List.map_nil, List.cons_append, List.nil_append, List.reduceReplicate, Option.getD_some, List.length_cons, List.length_nil, List.getD_cons_zero, List.getD_cons_succ, Nat.reduceAdd, Nat.reduceSub, Option.map_some, if_true, if_false, ite_true, ite_false, Bool.false_eq_true, reduceIte, Nat.reduceLeDiff, Nat.reduceEqDiff, Int.reduceEq, Int.reduceNe, Int.reduceLT, Int.reduceLE, Int.reduceNeg, Int.reducePow, ne_eq, not_false_eq_true, decide_true, decide_false, true_and, and_true, true_or, or_true, and_self, Bool.not_true, Bool.not_false, reduceCtorEq, h, lk2, isE, t2, t4, t6, in0, in1, ixa, ixd, adb]
theorem said_str {d1 d2 : D} {S : Sto} {u : Str} (h : F_between [d1, d2] S = .ok (.val (.str u)) [] S) : F__law_said [d1, d2] S = .ok (.val (.str u)) [] S := by
  simp only [F__law_said, m__law_said, sTry, hdlS, dropO, Int.ofNat_lt, Int.ofNat_le, bind_ok, bind_exc, bind_stuck, sizeLine_eq, fMod_i, fFdiv_i, fMul_i, fMul_i1, fMul_i2, fm0, fm1, fAdd_i, fSub_i, fPow_i, fAdd_l, fAdd_t, fAdd_s, fLt_i, fLe_i, fGt_i, fGe_i, evO, resW, evR, bPrim, bC, bVar, tTru, tBool, tNotB, tAndB, tOrB, bAnd, bOr, bNot, bIf, wIf, evX, bTup, wLst, wPrim, wVal, eFrz, wCall, sOk, sRet, sSet, sIf, sSeq, sDrop, sPar, evW, setAll, Tg.asg, Tg.asgs, mMut, sPutL, bGet, sPutD, wDisp, ePub, bIxL, sPutS, mChk, mInt, D.isStr, D.isInt, D.tru, fLen_l, fLen_t, List.length_map, iVal, itemsD, iRange, plainS, wipeE, backE, wComp, wCompB, List.all_cons, List.all_nil, Slot.isVal, Bool.and_true, Bool.true_and, Bool.and_self, fsem, env0, fill, wMove, Slot.frz, List.getElem?_cons_zero, List.getElem?_cons_succ, List.set_cons_zero, List.set_cons_succ, List.map_cons, List.map_nil, List.cons_append, List.nil_append, List.reduceReplicate, Option.getD_some, List.length_cons, List.length_nil, List.getD_cons_zero, List.getD_cons_succ, Nat.reduceAdd, Nat.reduceSub, Option.map_some, if_true, if_false, ite_true, ite_false, Bool.false_eq_true, reduceIte, Nat.reduceLeDiff, Nat.reduceEqDiff, Int.reduceEq, Int.reduceNe, Int.reduceLT, Int.reduceLE, Int.reduceNeg, Int.reducePow, ne_eq, not_false_eq_true, decide_true, decide_false, true_and, and_true, true_or, or_true, and_self, Bool.not_true, Bool.not_false, reduceCtorEq, h, isn, isi_s]
def saidT (lo hi : Option Str) : Str := if badP lo hi = true then "bad" else match dueS lo hi with
  | some u => sd u
  | none => "no room"
theorem said_ok {lo hi : Option Str} (hlo : OkO lo) (hhi : OkO hi) (S : Sto) : F__law_said [oD lo, oD hi] S = .ok (.val (.str (saidT lo hi))) [] S := by
  have b := between_ok hlo hhi S
  unfold saidT
  by_cases q : badP lo hi = true
  · rw [if_pos q] at b ⊢
    exact said_bad b
  · rw [if_neg q] at b ⊢
    cases z : dueS lo hi with
    | some u => rw [z] at b; exact said_str b
    | none => rw [z] at b; exact said_room b

/-! ### numbers of texts -/
theorem pad_succ (l : List Nat) (k : Nat) : pad l (k + 1) = pad l k ++ [(l[k]?).getD 48] := by
  unfold pad
  by_cases h : k < l.length
  · rw [List.take_add_one, List.getElem?_eq_getElem h]
    rw [show k + 1 - l.length = 0 by omega, show k - l.length = 0 by omega]
    simp
  · rw [List.getElem?_eq_none (by omega), List.take_of_length_le (by omega), List.take_of_length_le (by omega), show k + 1 - l.length = (k - l.length) + 1 by omega, List.replicate_succ']
    simp
theorem lt_n (a b : Nat) : fLt [.int (a : Nat), .int (b : Nat)] = some (.bl (decide (a < b))) := by
  show some (D.bl (decide ((a : Int) < (b : Int)))) = _
  congr 2
  exact decide_eq_decide.mpr (by omega)
theorem ix_n {w : Str} {k c : Nat} (h : (cs w)[k]? = some c) (hn : w.length ≤ 1000) : fIx [.str w, .int (k : Nat)] = some (chD c) := by
  show (if w.length ≤ sizeLine then (atI (cs w) ((k : Nat) : Int)).map chD else none) = _
  rw [if_pos (by rw [sizeLine_eq]; omega), atI_n, h]; rfl
theorem num_loop {w : Str} (hw : AllDigits (cs w)) (h8 : w.length ≤ 8) (x1 : Option Slot) (S : Sto) : ∀ (k : Nat) (x3 : Option Slot), k ≤ 8 → ∃ y3, forL (.nm 3) m__law_number_0 ((List.range' 0 k).map fun i => .int (i : Nat)) [(some (Slot.val (.str w))), x1, (some (Slot.val (.int 0))), x3] S = .ok .next [(some (Slot.val (.str w))), x1, (some (Slot.val (.int ((digitsVal (pad (cs w) k) : Nat) : Int)))), y3] S := by
  have key : ∀ (k j : Nat) (x3 : Option Slot), j + k ≤ 8 → ∃ y3, forL (.nm 3) m__law_number_0 ((List.range' j k).map fun i => .int (i : Nat)) [(some (Slot.val (.str w))), x1, (some (Slot.val (.int ((digitsVal (pad (cs w) j) : Nat) : Int)))), x3] S = .ok .next [(some (Slot.val (.str w))), x1, (some (Slot.val (.int ((digitsVal (pad (cs w) (j + k)) : Nat) : Int)))), y3] S := by
    intro k
    induction k with
    | zero => exact fun j x3 _ => ⟨x3, rfl⟩
    | succ k ih =>
      intro j x3 h
      obtain ⟨y, e⟩ := ih (j + 1) (some (Slot.val (.int (j : Nat)))) (by omega)
      have l := len_s (x := w) (n := 8) h8 (by omega)
      have lt := lt_n j w.length
      have mu : fMul [.int 10, .int ((digitsVal (pad (cs w) j) : Nat) : Int)] = some (.int (10 * ((digitsVal (pad (cs w) j) : Nat) : Int))) := fMul_i _ _ (.inl rfl)
      have st : m__law_number_0 [(some (Slot.val (.str w))), x1, (some (Slot.val (.int ((digitsVal (pad (cs w) j) : Nat) : Int)))), (some (Slot.val (.int (j : Nat))))] S = .ok .next [(some (Slot.val (.str w))), x1, (some (Slot.val (.int ((digitsVal (pad (cs w) (j + 1)) : Nat) : Int)))), (some (Slot.val (.int (j : Nat))))] S := by
        by_cases q : j < w.length
        · rw [decide_eq_true q] at lt
          have hc : (cs w)[j]? = some ((cs w)[j]'(by rw [cs_len]; exact q)) := List.getElem?_eq_getElem _
          have ad : (10 : Int) * ((digitsVal (pad (cs w) j) : Nat) : Int) + (((cs w)[j]'(by rw [cs_len]; exact q) - 48 : Nat) : Int) = ((digitsVal (pad (cs w) (j + 1)) : Nat) : Int) := by
            rw [pad_succ, hc, dv_snoc, Option.getD_some]; omega
          have ix := ix_n hc (by omega)
          have id := index_dig (hw _ (List.mem_of_getElem? hc))
          generalize (cs w)[j]'(by rw [cs_len]; exact q) = c at *
          simp only [m__law_number_0, Int.ofNat_lt, Int.ofNat_le, bind_ok, bind_exc, bind_stuck, sizeLine_eq, fMod_i, fFdiv_i, fMul_i, fMul_i1, fMul_i2, fm0, fm1, fAdd_i, fSub_i, fPow_i, fAdd_l, fAdd_t, fAdd_s, fLt_i, fLe_i, fGt_i, fGe_i, evO, resW, evR, bPrim, bC, bVar, tTru, tBool, tNotB, tAndB, tOrB, bAnd, bOr, bNot, bIf, wIf, evX, bTup, wLst, wPrim, wVal, eFrz, wCall, sOk, sRet, sSet, sIf, sSeq, sDrop, sPar, evW, setAll, Tg.asg, Tg.asgs, mMut, sPutL, bGet, sPutD, wDisp, ePub, bIxL, sPutS, mChk, mInt, D.isStr, D.isInt, D.tru, fLen_l, fLen_t, List.length_map, iVal, itemsD, iRange, plainS, wipeE, backE, wComp, wCompB, List.all_cons, List.all_nil, Slot.isVal, Bool.and_true, Bool.true_and, Bool.and_self, fsem, env0, fill, wMove, Slot.frz, List.getElem?_cons_zero, List.getElem?_cons_succ, List.set_cons_zero, List.set_cons_succ, List.map_cons, List.map_nil, List.cons_append, List.nil_append, List.reduceReplicate, Option.getD_some, List.length_cons, List.length_nil, List.getD_cons_zero, List.getD_cons_succ, Nat.reduceAdd, Nat.reduceSub, Option.map_some, if_true, if_false, ite_true, ite_false, Bool.false_eq_true, reduceIte, Nat.reduceLeDiff, Nat.reduceEqDiff, Int.reduceEq, Int.reduceNe, Int.reduceLT, Int.reduceLE, Int.reduceNeg, Int.reducePow, ne_eq, not_false_eq_true, decide_true, decide_false, true_and, and_true, true_or, or_true, and_self, Bool.not_true, Bool.not_false, reduceCtorEq, l, lt, mu, ix, id, ad]
        · rw [decide_eq_false q] at lt
          have ad : (10 : Int) * ((digitsVal (pad (cs w) j) : Nat) : Int) + 0 = ((digitsVal (pad (cs w) (j + 1)) : Nat) : Int) := by
            rw [pad_succ, List.getElem?_eq_none (by rw [cs_len]; omega), dv_snoc, Option.getD_none]; omega
          simp only [m__law_number_0, Int.ofNat_lt, Int.ofNat_le, bind_ok, bind_exc, bind_stuck, sizeLine_eq, fMod_i, fFdiv_i, fMul_i, fMul_i1, fMul_i2, fm0, fm1, fAdd_i, fSub_i, fPow_i, fAdd_l, fAdd_t, fAdd_s, fLt_i, fLe_i, fGt_i, fGe_i, evO, resW, evR, bPrim, bC, bVar, tTru, tBool, tNotB, tAndB, tOrB, bAnd, bOr, bNot, bIf, wIf, evX, bTup, wLst, wPrim, wVal, eFrz, wCall, sOk, sRet, sSet, sIf, sSeq, sDrop, sPar, evW, setAll, Tg.asg, Tg.asgs, mMut, sPutL, bGet, sPutD, wDisp, ePub, bIxL, sPutS, mChk, mInt, D.isStr, D.isInt, D.tru, fLen_l, fLen_t, List.length_map, iVal, itemsD, iRange, plainS, wipeE, backE, wComp, wCompB, List.all_cons, List.all_nil, Slot.isVal, Bool.and_true, Bool.true_and, Bool.and_self, fsem, env0, fill, wMove, Slot.frz, List.getElem?_cons_zero, List.getElem?_cons_succ, List.set_cons_zero, List.set_cons_succ, List.map_cons, List.map_nil, List.cons_append, List.nil_append, List.reduceReplicate, Option.getD_some, List.length_cons, List.length_nil, List.getD_cons_zero, List.getD_cons_succ, Nat.reduceAdd, Nat.reduceSub, Option.map_some, if_true, if_false, ite_true, ite_false, Bool.false_eq_true, reduceIte, Nat.reduceLeDiff, Nat.reduceEqDiff, Int.reduceEq, Int.reduceNe, Int.reduceLT, Int.reduceLE, Int.reduceNeg, Int.reducePow, ne_eq, not_false_eq_true, decide_true, decide_false, true_and, and_true, true_or, or_true, and_self, Bool.not_true, Bool.not_false, reduceCtorEq, l, lt, mu, ad]
      refine ⟨y, ?_⟩
      rw [List.range'_succ, List.map_cons, forL_step rfl st, e]
      congr 5
      rw [show j + 1 + k = j + (k + 1) by omega]
  intro k x3 hk
  have := key k 0 x3 (by omega)
  rw [Nat.zero_add, show digitsVal (pad (cs w) 0) = 0 by simp [pad, digitsVal]] at this
  exact this
theorem law_number_ok {w : Str} {n : Nat} (hw : AllDigits (cs w)) (h8 : w.length ≤ 8) (hn : n ≤ 8) (S : Sto) : F__law_number [.str w, .int (n : Nat)] S = .ok (.val (.int ((digitsVal (pad (cs w) n) : Nat) : Int))) [] S := by
  obtain ⟨y, e⟩ := num_loop hw h8 (some (Slot.val (.int (n : Nat)))) S n none hn
  have r := range1_ok n (by omega)
  rw [rangeD_up] at r
  simp only [F__law_number, m__law_number, sFor, Int.ofNat_lt, Int.ofNat_le, bind_ok, bind_exc, bind_stuck, sizeLine_eq, fMod_i, fFdiv_i, fMul_i, fMul_i1, fMul_i2, fm0, fm1, fAdd_i, fSub_i, fPow_i, fAdd_l, fAdd_t, fAdd_s, fLt_i, fLe_i, fGt_i, fGe_i, evO, resW, evR, bPrim, bC, bVar, tTru, tBool, tNotB, tAndB, tOrB, bAnd, bOr, bNot, bIf, wIf, evX, bTup, wLst, wPrim, wVal, eFrz, wCall, sOk, sRet, sSet, sIf, sSeq, sDrop, sPar, evW, setAll, Tg.asg, Tg.asgs, mMut, sPutL, bGet, sPutD, wDisp, ePub, bIxL, sPutS, mChk, mInt, D.isStr, D.isInt, D.tru, fLen_l, fLen_t, List.length_map, iVal, itemsD, iRange, plainS, wipeE, backE, wComp, wCompB, List.all_cons, List.all_nil, Slot.isVal, Bool.and_true, Bool.true_and, Bool.and_self, fsem, env0, fill, wMove, Slot.frz, List.getElem?_cons_zero, List.getElem?_cons_succ, List.set_cons_zero, List.set_cons_succ, List.map_cons, List.map_nil, List.cons_append, List.nil_append, List.reduceReplicate, Option.getD_some, List.length_cons, List.length_nil, List.getD_cons_zero, List.getD_cons_succ, Nat.reduceAdd, Nat.reduceSub, Option.map_some, if_true, if_false, ite_true, ite_false, Bool.false_eq_true, reduceIte, Nat.reduceLeDiff, Nat.reduceEqDiff, Int.reduceEq, Int.reduceNe, Int.reduceLT, Int.reduceLE, Int.reduceNeg, Int.reducePow, ne_eq, not_false_eq_true, decide_true, decide_false, true_and, and_true, true_or, or_true, and_self, Bool.not_true, Bool.not_false, reduceCtorEq, r, e]

/-! ### what is due -/
theorem rep_cs (c n : Nat) : strRep ⟨#[c]⟩ (n : Nat) = sd (List.replicate n c) := by
  have : cs (strRep ⟨#[c]⟩ (n : Nat)) = List.replicate n c := by
    have key : ∀ (n : Nat) (acc : Array Nat), (List.foldl (fun x1 x2 => x1 ++ x2) acc (List.replicate n #[c])).toList = acc.toList ++ List.replicate n c := by
      intro n
      induction n with
      | zero => intro acc; simp
      | succ n ih => intro acc; rw [List.replicate_succ, List.foldl_cons, ih, List.replicate_succ]; simp
    unfold strRep
    simp only [cs]
    exact key n #[]
  rw [← sd_cs (strRep ⟨#[c]⟩ (n : Nat)), this]
theorem mul_sd (c n : Nat) (h : n ≤ 1000) : fMul [.str ⟨#[c]⟩, .int (n : Nat)] = some (.str (sd (List.replicate n c))) := by
  rw [← rep_cs]
  refine if_pos ⟨smI_iff ⟨by omega, by omega⟩, ?_⟩
  rw [show (⟨#[c]⟩ : Str).length = 1 from rfl, sizeLine_eq]; omega
theorem nine_s : ("9" : Str) = ⟨#[57]⟩ := by decide +kernel
theorem ad_nine (n : Nat) : AllDigits (List.replicate n 57) := fun c hc => by rw [List.eq_of_mem_replicate hc]; omega
theorem dv_nine (n : Nat) : digitsVal (List.replicate n 57) = 10 ^ n - 1 := by
  induction n with
  | zero => rfl
  | succ n ih =>
    rw [List.replicate_succ, dv_cons, ih, List.length_replicate, Nat.pow_succ]
    have : 0 < 10 ^ n := Nat.pow_pos (by decide)
    omega
theorem fmod_n (k : Nat) : ((k : Nat) : Int).fmod 10 = ((k % 10 : Nat) : Int) := by
  rw [Int.fmod_eq_emod_of_nonneg _ (by decide)]; rfl
theorem eq_0n (k : Nat) : fEq [.int (((k : Nat) : Int).fmod 10), .int 0] = some (.bl (decide (k % 10 = 0))) := by
  rw [fmod_n, eq_i]
  congr 2
  exact decide_eq_decide.mpr (by omega)
theorem le_n (a b : Nat) : fLe [.int (a : Nat), .int (b : Nat)] = some (.bl (decide (a ≤ b))) := le_len
theorem int_bl (b : Bool) : fIntC [.bl b] = some (.int (if b = true then 1 else 0)) := rfl
def fitD (l : List Nat) (h : Option (List Nat)) (n : Nat) : Int := if okAt l h n = true then ((frst l n : Nat) : Int) else -1
theorem le_ii (a b : Int) : fLe [.int a, .int b] = some (.bl (decide (a ≤ b))) := rfl
theorem m1 : (0 : Int) - 1 = -1 := rfl
theorem sSeq_next {m n : Sm} {e e' : Env} {S S' : Sto} (h : m e S = .ok .next e' S') : sSeq m n e S = n e' S' := by
  unfold sSeq; rw [h]; rfl
theorem fitting_ok {lo hi : Option Str} (hlo : OkO lo) (hhi : OkO hi) {n : Nat} (h1 : 1 ≤ n) (h8 : n ≤ 8) (S : Sto) : F__law_fitting [oD lo, oD hi, .int (n : Nat)] S = .ok (.val (.int (fitD (lo0 lo) (hi.map cs) n))) [] S := by
  have A : sSet 3 (wIf (tBool (bPrim fIsN [.sl 0, .ex (bC .non)])) (wVal (bC (.int 1))) (wPrim fAdd [.ex (eFrz (wCall F__law_number [] ar2 [bVar 0, bVar 2] [])), .ex (bC (.int 1))])) [(some (Slot.val (oD lo))), (some (Slot.val (oD hi))), (some (Slot.val (.int (n : Nat)))), none, none] S = .ok .next [(some (Slot.val (oD lo))), (some (Slot.val (oD hi))), (some (Slot.val (.int (n : Nat)))), (some (Slot.val (.int ((digitsVal (pad (lo0 lo) n) + 1 : Nat) : Int)))), none] S := by
    cases lo with
    | none =>
      rw [show pad (lo0 none) n = List.replicate n 48 from pad_nil n, dv_zeros]
      simp only [Int.ofNat_lt, Int.ofNat_le, bind_ok, bind_exc, bind_stuck, sizeLine_eq, fMod_i, fFdiv_i, fMul_i, fMul_i1, fMul_i2, fm0, fm1, fAdd_i, fSub_i, fPow_i, fAdd_l, fAdd_t, fAdd_s, fLt_i, fLe_i, fGt_i, fGe_i, evO, resW, evR, bPrim, bC, bVar, tTru, tBool, tNotB, tAndB, tOrB, bAnd, bOr, bNot, bIf, wIf, evX, bTup, wLst, wPrim, wVal, eFrz, wCall, sOk, sRet, sSet, sIf, sSeq, sDrop, sPar, evW, setAll, Tg.asg, Tg.asgs, mMut, sPutL, bGet, sPutD, wDisp, ePub, bIxL, sPutS, mChk, mInt, D.isStr, D.isInt, D.tru, fLen_l, fLen_t, List.length_map, iVal, itemsD, iRange, plainS, wipeE, backE, wComp, wCompB, List.all_cons, List.all_nil, Slot.isVal, Bool.and_true, Bool.true_and, Bool.and_self, fsem, env0, fill, wMove, Slot.frz, List.getElem?_cons_zero, List.getElem?_cons_succ, List.set_cons_zero, List.set_cons_succ, List.map_cons, List.map_nil, List.cons_append, List.nil_append, List.reduceReplicate, Option.getD_some, List.length_cons, List.length_nil, List.getD_cons_zero, List.getD_cons_succ, Nat.reduceAdd, Nat.reduceSub, Option.map_some, if_true, if_false, ite_true, ite_false, Bool.false_eq_true, reduceIte, Nat.reduceLeDiff, Nat.reduceEqDiff, Int.reduceEq, Int.reduceNe, Int.reduceLT, Int.reduceLE, Int.reduceNeg, Int.reducePow, ne_eq, not_false_eq_true, decide_true, decide_false, true_and, and_true, true_or, or_true, and_self, Bool.not_true, Bool.not_false, reduceCtorEq, oD, isn]; rfl
    | some a =>
      have h := hlo a rfl
      have e := law_number_ok h.ad h.l8 h8 S
      have p1 : ((digitsVal (pad (cs a) n) : Nat) : Int) + 1 = ((digitsVal (pad (lo0 (some a)) n) + 1 : Nat) : Int) := by
        show _ = ((digitsVal (pad (cs a) n) + 1 : Nat) : Int)
        omega
      simp only [Int.ofNat_lt, Int.ofNat_le, bind_ok, bind_exc, bind_stuck, sizeLine_eq, fMod_i, fFdiv_i, fMul_i, fMul_i1, fMul_i2, fm0, fm1, fAdd_i, fSub_i, fPow_i, fAdd_l, fAdd_t, fAdd_s, fLt_i, fLe_i, fGt_i, fGe_i, evO, resW, evR, bPrim, bC, bVar, tTru, tBool, tNotB, tAndB, tOrB, bAnd, bOr, bNot, bIf, wIf, evX, bTup, wLst, wPrim, wVal, eFrz, wCall, sOk, sRet, sSet, sIf, sSeq, sDrop, sPar, evW, setAll, Tg.asg, Tg.asgs, mMut, sPutL, bGet, sPutD, wDisp, ePub, bIxL, sPutS, mChk, mInt, D.isStr, D.isInt, D.tru, fLen_l, fLen_t, List.length_map, iVal, itemsD, iRange, plainS, wipeE, backE, wComp, wCompB, List.all_cons, List.all_nil, Slot.isVal, Bool.and_true, Bool.true_and, Bool.and_self, fsem, env0, fill, wMove, Slot.frz, List.getElem?_cons_zero, List.getElem?_cons_succ, List.set_cons_zero, List.set_cons_succ, List.map_cons, List.map_nil, List.cons_append, List.nil_append, List.reduceReplicate, Option.getD_some, List.length_cons, List.length_nil, List.getD_cons_zero, List.getD_cons_succ, Nat.reduceAdd, Nat.reduceSub, Option.map_some, if_true, if_false, ite_true, ite_false, Bool.false_eq_true, reduceIte, Nat.reduceLeDiff, Nat.reduceEqDiff, Int.reduceEq, Int.reduceNe, Int.reduceLT, Int.reduceLE, Int.reduceNeg, Int.reducePow, ne_eq, not_false_eq_true, decide_true, decide_false, true_and, and_true, true_or, or_true, and_self, Bool.not_true, Bool.not_false, reduceCtorEq, oD, iss, e, p1]
  have B : sIf (tBool (bPrim fEq [.ex (bPrim fMod [.sl 3, .ex (bC (.int 10))]), .ex (bC (.int 0))])) (sSeq (sSet 3 (wPrim fAdd [.sl 3, .ex (bC (.int 1))])) (sOk .next)) (sOk .next) [(some (Slot.val (oD lo))), (some (Slot.val (oD hi))), (some (Slot.val (.int (n : Nat)))), (some (Slot.val (.int ((digitsVal (pad (lo0 lo) n) + 1 : Nat) : Int)))), none] S = .ok .next [(some (Slot.val (oD lo))), (some (Slot.val (oD hi))), (some (Slot.val (.int (n : Nat)))), (some (Slot.val (.int ((frst (lo0 lo) n : Nat) : Int)))), none] S := by
    have e0 := eq_0n (digitsVal (pad (lo0 lo) n) + 1)
    unfold frst
    by_cases q : (digitsVal (pad (lo0 lo) n) + 1) % 10 = 0
    · rw [decide_eq_true q] at e0
      rw [if_pos q]
      generalize digitsVal (pad (lo0 lo) n) + 1 = v at e0 ⊢
      have p2 : ((v : Nat) : Int) + 1 = ((v + 1 : Nat) : Int) := by omega
      generalize oD lo = dl
      generalize oD hi = dh
      simp only [Int.ofNat_lt, Int.ofNat_le, bind_ok, bind_exc, bind_stuck, sizeLine_eq, fMod_i, fFdiv_i, fMul_i, fMul_i1, fMul_i2, fm0, fm1, fAdd_i, fSub_i, fPow_i, fAdd_l, fAdd_t, fAdd_s, fLt_i, fLe_i, fGt_i, fGe_i, evO, resW, evR, bPrim, bC, bVar, tTru, tBool, tNotB, tAndB, tOrB, bAnd, bOr, bNot, bIf, wIf, evX, bTup, wLst, wPrim, wVal, eFrz, wCall, sOk, sRet, sSet, sIf, sSeq, sDrop, sPar, evW, setAll, Tg.asg, Tg.asgs, mMut, sPutL, bGet, sPutD, wDisp, ePub, bIxL, sPutS, mChk, mInt, D.isStr, D.isInt, D.tru, fLen_l, fLen_t, List.length_map, iVal, itemsD, iRange, plainS, wipeE, backE, wComp, wCompB, List.all_cons, List.all_nil, Slot.isVal, Bool.and_true, Bool.true_and, Bool.and_self, fsem, env0, fill, wMove, Slot.frz, List.getElem?_cons_zero, List.getElem?_cons_succ, List.set_cons_zero, List.set_cons_succ, List.map_cons, List.map_nil, List.cons_append, List.nil_append, List.reduceReplicate, Option.getD_some, List.length_cons, List.length_nil, List.getD_cons_zero, List.getD_cons_succ, Nat.reduceAdd, Nat.reduceSub, Option.map_some, if_true, if_false, ite_true, ite_false, Bool.false_eq_true, reduceIte, Nat.reduceLeDiff, Nat.reduceEqDiff, Int.reduceEq, Int.reduceNe, Int.reduceLT, Int.reduceLE, Int.reduceNeg, Int.reducePow, ne_eq, not_false_eq_true, decide_true, decide_false, true_and, and_true, true_or, or_true, and_self, Bool.not_true, Bool.not_false, reduceCtorEq, e0, p2]
    · rw [decide_eq_false q] at e0
      rw [if_neg q]
      generalize digitsVal (pad (lo0 lo) n) + 1 = v at e0 ⊢
      generalize oD lo = dl
      generalize oD hi = dh
      simp only [Int.ofNat_lt, Int.ofNat_le, bind_ok, bind_exc, bind_stuck, sizeLine_eq, fMod_i, fFdiv_i, fMul_i, fMul_i1, fMul_i2, fm0, fm1, fAdd_i, fSub_i, fPow_i, fAdd_l, fAdd_t, fAdd_s, fLt_i, fLe_i, fGt_i, fGe_i, evO, resW, evR, bPrim, bC, bVar, tTru, tBool, tNotB, tAndB, tOrB, bAnd, bOr, bNot, bIf, wIf, evX, bTup, wLst, wPrim, wVal, eFrz, wCall, sOk, sRet, sSet, sIf, sSeq, sDrop, sPar, evW, setAll, Tg.asg, Tg.asgs, mMut, sPutL, bGet, sPutD, wDisp, ePub, bIxL, sPutS, mChk, mInt, D.isStr, D.isInt, D.tru, fLen_l, fLen_t, List.length_map, iVal, itemsD, iRange, plainS, wipeE, backE, wComp, wCompB, List.all_cons, List.all_nil, Slot.isVal, Bool.and_true, Bool.true_and, Bool.and_self, fsem, env0, fill, wMove, Slot.frz, List.getElem?_cons_zero, List.getElem?_cons_succ, List.set_cons_zero, List.set_cons_succ, List.map_cons, List.map_nil, List.cons_append, List.nil_append, List.reduceReplicate, Option.getD_some, List.length_cons, List.length_nil, List.getD_cons_zero, List.getD_cons_succ, Nat.reduceAdd, Nat.reduceSub, Option.map_some, if_true, if_false, ite_true, ite_false, Bool.false_eq_true, reduceIte, Nat.reduceLeDiff, Nat.reduceEqDiff, Int.reduceEq, Int.reduceNe, Int.reduceLT, Int.reduceLE, Int.reduceNeg, Int.reducePow, ne_eq, not_false_eq_true, decide_true, decide_false, true_and, and_true, true_or, or_true, and_self, Bool.not_true, Bool.not_false, reduceCtorEq, e0]
  have C : ∀ (dl dh : D) (f : Int), sSet 4 (wVal (bPrim fIntC [.ex (bPrim fMul [.ex (bC (.str "9")), .sl 2])])) [(some (Slot.val (dl))), (some (Slot.val (dh))), (some (Slot.val (.int (n : Nat)))), (some (Slot.val (.int f))), none] S = .ok .next [(some (Slot.val (dl))), (some (Slot.val (dh))), (some (Slot.val (.int (n : Nat)))), (some (Slot.val (.int f))), (some (Slot.val (.int (((10 ^ n : Nat) : Int) - 1))))] S := by
    intro dl dh f
    have mu := mul_sd 57 n (by omega)
    rw [← nine_s] at mu
    have it := int_dig (ad_nine n) (fun z => by have := congrArg List.length z; simp at this; omega) (by simp; omega)
    have tN : ((digitsVal (List.replicate n 57) : Nat) : Int) = ((10 ^ n : Nat) : Int) - 1 := by
      rw [dv_nine]
      have : 0 < 10 ^ n := Nat.pow_pos (by decide)
      omega
    rw [tN] at it
    generalize ((10 ^ n : Nat) : Int) - 1 = z at it ⊢
    simp only [Int.ofNat_lt, Int.ofNat_le, bind_ok, bind_exc, bind_stuck, sizeLine_eq, fMod_i, fFdiv_i, fMul_i, fMul_i1, fMul_i2, fm0, fm1, fAdd_i, fSub_i, fPow_i, fAdd_l, fAdd_t, fAdd_s, fLt_i, fLe_i, fGt_i, fGe_i, evO, resW, evR, bPrim, bC, bVar, tTru, tBool, tNotB, tAndB, tOrB, bAnd, bOr, bNot, bIf, wIf, evX, bTup, wLst, wPrim, wVal, eFrz, wCall, sOk, sRet, sSet, sIf, sSeq, sDrop, sPar, evW, setAll, Tg.asg, Tg.asgs, mMut, sPutL, bGet, sPutD, wDisp, ePub, bIxL, sPutS, mChk, mInt, D.isStr, D.isInt, D.tru, fLen_l, fLen_t, List.length_map, iVal, itemsD, iRange, plainS, wipeE, backE, wComp, wCompB, List.all_cons, List.all_nil, Slot.isVal, Bool.and_true, Bool.true_and, Bool.and_self, fsem, env0, fill, wMove, Slot.frz, List.getElem?_cons_zero, List.getElem?_cons_succ, List.set_cons_zero, List.set_cons_succ, List.map_cons, List.map_nil, List.cons_append, List.nil_append, List.reduceReplicate, Option.getD_some, List.length_cons, List.length_nil, List.getD_cons_zero, List.getD_cons_succ, Nat.reduceAdd, Nat.reduceSub, Option.map_some, if_true, if_false, ite_true, ite_false, Bool.false_eq_true, reduceIte, Nat.reduceLeDiff, Nat.reduceEqDiff, Int.reduceEq, Int.reduceNe, Int.reduceLT, Int.reduceLE, Int.reduceNeg, Int.reducePow, ne_eq, not_false_eq_true, decide_true, decide_false, true_and, and_true, true_or, or_true, and_self, Bool.not_true, Bool.not_false, reduceCtorEq, mu, it]
  have E : ∀ (dl : D) (f : Int), sIf (tBool (bPrim fNotN [.sl 1, .ex (bC .non)])) (sSeq (sSet 4 (wVal (bPrim fSub [.ex (eFrz (wCall F__law_number [] ar2 [bVar 1, bVar 2] [])), .ex (bPrim fIntC [.ex (bPrim fLe [.ex (bPrim fLen [.sl 1]), .sl 2])])]))) (sOk .next)) (sOk .next) [(some (Slot.val (dl))), (some (Slot.val (oD hi))), (some (Slot.val (.int (n : Nat)))), (some (Slot.val (.int f))), (some (Slot.val (.int (((10 ^ n : Nat) : Int) - 1))))] S = .ok .next [(some (Slot.val (dl))), (some (Slot.val (oD hi))), (some (Slot.val (.int (n : Nat)))), (some (Slot.val (.int f))), (some (Slot.val (.int (topOf (hi.map cs) n))))] S := by
    intro dl f
    cases hi with
    | none =>
      show _ = Out.ok Fl.next [(some (Slot.val (dl))), (some (Slot.val (oD none))), (some (Slot.val (.int (n : Nat)))), (some (Slot.val (.int f))), (some (Slot.val (.int (((10 ^ n : Nat) : Int) - 1))))] S
      generalize ((10 ^ n : Nat) : Int) - 1 = z
      simp only [Int.ofNat_lt, Int.ofNat_le, bind_ok, bind_exc, bind_stuck, sizeLine_eq, fMod_i, fFdiv_i, fMul_i, fMul_i1, fMul_i2, fm0, fm1, fAdd_i, fSub_i, fPow_i, fAdd_l, fAdd_t, fAdd_s, fLt_i, fLe_i, fGt_i, fGe_i, evO, resW, evR, bPrim, bC, bVar, tTru, tBool, tNotB, tAndB, tOrB, bAnd, bOr, bNot, bIf, wIf, evX, bTup, wLst, wPrim, wVal, eFrz, wCall, sOk, sRet, sSet, sIf, sSeq, sDrop, sPar, evW, setAll, Tg.asg, Tg.asgs, mMut, sPutL, bGet, sPutD, wDisp, ePub, bIxL, sPutS, mChk, mInt, D.isStr, D.isInt, D.tru, fLen_l, fLen_t, List.length_map, iVal, itemsD, iRange, plainS, wipeE, backE, wComp, wCompB, List.all_cons, List.all_nil, Slot.isVal, Bool.and_true, Bool.true_and, Bool.and_self, fsem, env0, fill, wMove, Slot.frz, List.getElem?_cons_zero, List.getElem?_cons_succ, List.set_cons_zero, List.set_cons_succ, List.map_cons, List.map_nil, List.cons_append, List.nil_append, List.reduceReplicate, Option.getD_some, List.length_cons, List.length_nil, List.getD_cons_zero, List.getD_cons_succ, Nat.reduceAdd, Nat.reduceSub, Option.map_some, if_true, if_false, ite_true, ite_false, Bool.false_eq_true, reduceIte, Nat.reduceLeDiff, Nat.reduceEqDiff, Int.reduceEq, Int.reduceNe, Int.reduceLT, Int.reduceLE, Int.reduceNeg, Int.reducePow, ne_eq, not_false_eq_true, decide_true, decide_false, true_and, and_true, true_or, or_true, and_self, Bool.not_true, Bool.not_false, reduceCtorEq, oD, nn]
    | some b =>
      have h := hhi b rfl
      have l8 := h.l8
      have e := law_number_ok h.ad h.l8 h8 S
      have l := len_s (x := b) (n := 8) l8 (by omega)
      have le := le_n b.length n
      have tp : topOf (Option.map cs (some b)) n = ((digitsVal (pad (cs b) n) : Nat) : Int) - (if b.length ≤ n then 1 else 0) := by
        show ((digitsVal (pad (cs b) n) : Nat) : Int) - (if (cs b).length ≤ n then 1 else 0) = _
        rw [cs_len]
      rw [tp]
      generalize ((10 ^ n : Nat) : Int) - 1 = z
      generalize ((digitsVal (pad (cs b) n) : Nat) : Int) = v at e ⊢
      by_cases q : b.length ≤ n
      · rw [decide_eq_true q] at le
        rw [if_pos q]
        simp only [Int.ofNat_lt, Int.ofNat_le, bind_ok, bind_exc, bind_stuck, sizeLine_eq, fMod_i, fFdiv_i, fMul_i, fMul_i1, fMul_i2, fm0, fm1, fAdd_i, fSub_i, fPow_i, fAdd_l, fAdd_t, fAdd_s, fLt_i, fLe_i, fGt_i, fGe_i, evO, resW, evR, bPrim, bC, bVar, tTru, tBool, tNotB, tAndB, tOrB, bAnd, bOr, bNot, bIf, wIf, evX, bTup, wLst, wPrim, wVal, eFrz, wCall, sOk, sRet, sSet, sIf, sSeq, sDrop, sPar, evW, setAll, Tg.asg, Tg.asgs, mMut, sPutL, bGet, sPutD, wDisp, ePub, bIxL, sPutS, mChk, mInt, D.isStr, D.isInt, D.tru, fLen_l, fLen_t, List.length_map, iVal, itemsD, iRange, plainS, wipeE, backE, wComp, wCompB, List.all_cons, List.all_nil, Slot.isVal, Bool.and_true, Bool.true_and, Bool.and_self, fsem, env0, fill, wMove, Slot.frz, List.getElem?_cons_zero, List.getElem?_cons_succ, List.set_cons_zero, List.set_cons_succ, List.map_cons, List.map_nil, List.cons_append, List.nil_append, List.reduceReplicate, Option.getD_some, List.length_cons, List.length_nil, List.getD_cons_zero, List.getD_cons_succ, Nat.reduceAdd, Nat.reduceSub, Option.map_some, if_true, if_false, ite_true, ite_false, Bool.false_eq_true, reduceIte, Nat.reduceLeDiff, Nat.reduceEqDiff, Int.reduceEq, Int.reduceNe, Int.reduceLT, Int.reduceLE, Int.reduceNeg, Int.reducePow, ne_eq, not_false_eq_true, decide_true, decide_false, true_and, and_true, true_or, or_true, and_self, Bool.not_true, Bool.not_false, reduceCtorEq, oD, ns, e, l, le, in1]
      · rw [decide_eq_false q] at le
        rw [if_neg q]
        simp only [Int.ofNat_lt, Int.ofNat_le, bind_ok, bind_exc, bind_stuck, sizeLine_eq, fMod_i, fFdiv_i, fMul_i, fMul_i1, fMul_i2, fm0, fm1, fAdd_i, fSub_i, fPow_i, fAdd_l, fAdd_t, fAdd_s, fLt_i, fLe_i, fGt_i, fGe_i, evO, resW, evR, bPrim, bC, bVar, tTru, tBool, tNotB, tAndB, tOrB, bAnd, bOr, bNot, bIf, wIf, evX, bTup, wLst, wPrim, wVal, eFrz, wCall, sOk, sRet, sSet, sIf, sSeq, sDrop, sPar, evW, setAll, Tg.asg, Tg.asgs, mMut, sPutL, bGet, sPutD, wDisp, ePub, bIxL, sPutS, mChk, mInt, D.isStr, D.isInt, D.tru, fLen_l, fLen_t, List.length_map, iVal, itemsD, iRange, plainS, wipeE, backE, wComp, wCompB, List.all_cons, List.all_nil, Slot.isVal, Bool.and_true, Bool.true_and, Bool.and_self, fsem, env0, fill, wMove, Slot.frz, List.getElem?_cons_zero, List.getElem?_cons_succ, List.set_cons_zero, List.set_cons_succ, List.map_cons, List.map_nil, List.cons_append, List.nil_append, List.reduceReplicate, Option.getD_some, List.length_cons, List.length_nil, List.getD_cons_zero, List.getD_cons_succ, Nat.reduceAdd, Nat.reduceSub, Option.map_some, if_true, if_false, ite_true, ite_false, Bool.false_eq_true, reduceIte, Nat.reduceLeDiff, Nat.reduceEqDiff, Int.reduceEq, Int.reduceNe, Int.reduceLT, Int.reduceLE, Int.reduceNeg, Int.reducePow, ne_eq, not_false_eq_true, decide_true, decide_false, true_and, and_true, true_or, or_true, and_self, Bool.not_true, Bool.not_false, reduceCtorEq, oD, ns, e, l, le, in0]
  have G : ∀ (dl dh : D), sRet (wIf (tBool (bPrim fLe [.sl 3, .sl 4])) (wVal (bVar 3)) (wVal (bPrim fSub [.ex (bC (.int 0)), .ex (bC (.int 1))]))) [(some (Slot.val (dl))), (some (Slot.val (dh))), (some (Slot.val (.int (n : Nat)))), (some (Slot.val (.int ((frst (lo0 lo) n : Nat) : Int)))), (some (Slot.val (.int (topOf (hi.map cs) n))))] S = .ok (.ret (.val (.int (fitD (lo0 lo) (hi.map cs) n)))) [(some (Slot.val (dl))), (some (Slot.val (dh))), (some (Slot.val (.int (n : Nat)))), (some (Slot.val (.int ((frst (lo0 lo) n : Nat) : Int)))), (some (Slot.val (.int (topOf (hi.map cs) n))))] S := by
    intro dl dh
    unfold fitD okAt
    generalize ((frst (lo0 lo) n : Nat) : Int) = a
    generalize topOf (hi.map cs) n = b
    have le := le_ii a b
    by_cases q : a ≤ b
    · rw [decide_eq_true q] at le ⊢
      simp only [Int.ofNat_lt, Int.ofNat_le, bind_ok, bind_exc, bind_stuck, sizeLine_eq, fMod_i, fFdiv_i, fMul_i, fMul_i1, fMul_i2, fm0, fm1, fAdd_i, fSub_i, fPow_i, fAdd_l, fAdd_t, fAdd_s, fLt_i, fLe_i, fGt_i, fGe_i, evO, resW, evR, bPrim, bC, bVar, tTru, tBool, tNotB, tAndB, tOrB, bAnd, bOr, bNot, bIf, wIf, evX, bTup, wLst, wPrim, wVal, eFrz, wCall, sOk, sRet, sSet, sIf, sSeq, sDrop, sPar, evW, setAll, Tg.asg, Tg.asgs, mMut, sPutL, bGet, sPutD, wDisp, ePub, bIxL, sPutS, mChk, mInt, D.isStr, D.isInt, D.tru, fLen_l, fLen_t, List.length_map, iVal, itemsD, iRange, plainS, wipeE, backE, wComp, wCompB, List.all_cons, List.all_nil, Slot.isVal, Bool.and_true, Bool.true_and, Bool.and_self, fsem, env0, fill, wMove, Slot.frz, List.getElem?_cons_zero, List.getElem?_cons_succ, List.set_cons_zero, List.set_cons_succ, List.map_cons, List.map_nil, List.cons_append, List.nil_append, List.reduceReplicate, Option.getD_some, List.length_cons, List.length_nil, List.getD_cons_zero, List.getD_cons_succ, Nat.reduceAdd, Nat.reduceSub, Option.map_some, if_true, if_false, ite_true, ite_false, Bool.false_eq_true, reduceIte, Nat.reduceLeDiff, Nat.reduceEqDiff, Int.reduceEq, Int.reduceNe, Int.reduceLT, Int.reduceLE, Int.reduceNeg, Int.reducePow, ne_eq, not_false_eq_true, decide_true, decide_false, true_and, and_true, true_or, or_true, and_self, Bool.not_true, Bool.not_false, reduceCtorEq, le]
    · rw [decide_eq_false q] at le ⊢
      simp only [Int.ofNat_lt, Int.ofNat_le, bind_ok, bind_exc, bind_stuck, sizeLine_eq, fMod_i, fFdiv_i, fMul_i, fMul_i1, fMul_i2, fm0, fm1, fAdd_i, fSub_i, fPow_i, fAdd_l, fAdd_t, fAdd_s, fLt_i, fLe_i, fGt_i, fGe_i, evO, resW, evR, bPrim, bC, bVar, tTru, tBool, tNotB, tAndB, tOrB, bAnd, bOr, bNot, bIf, wIf, evX, bTup, wLst, wPrim, wVal, eFrz, wCall, sOk, sRet, sSet, sIf, sSeq, sDrop, sPar, evW, setAll, Tg.asg, Tg.asgs, mMut, sPutL, bGet, sPutD, wDisp, ePub, bIxL, sPutS, mChk, mInt, D.isStr, D.isInt, D.tru, fLen_l, fLen_t, List.length_map, iVal, itemsD, iRange, plainS, wipeE, backE, wComp, wCompB, List.all_cons, List.all_nil, Slot.isVal, Bool.and_true, Bool.true_and, Bool.and_self, fsem, env0, fill, wMove, Slot.frz, List.getElem?_cons_zero, List.getElem?_cons_succ, List.set_cons_zero, List.set_cons_succ, List.map_cons, List.map_nil, List.cons_append, List.nil_append, List.reduceReplicate, Option.getD_some, List.length_cons, List.length_nil, List.getD_cons_zero, List.getD_cons_succ, Nat.reduceAdd, Nat.reduceSub, Option.map_some, if_true, if_false, ite_true, ite_false, Bool.false_eq_true, reduceIte, Nat.reduceLeDiff, Nat.reduceEqDiff, Int.reduceEq, Int.reduceNe, Int.reduceLT, Int.reduceLE, Int.reduceNeg, Int.reducePow, ne_eq, not_false_eq_true, decide_true, decide_false, true_and, and_true, true_or, or_true, and_self, Bool.not_true, Bool.not_false, reduceCtorEq, le, m1]
  show fsem 5 m__law_fitting [oD lo, oD hi, .int (n : Nat)] S = _
  unfold fsem m__law_fitting
  rw [show env0 5 [oD lo, oD hi, .int (n : Nat)] = [(some (Slot.val (oD lo))), (some (Slot.val (oD hi))), (some (Slot.val (.int (n : Nat)))), none, none] from rfl, sSeq_next A, sSeq_next B, sSeq_next (C _ _ _), sSeq_next (E _ _)]
  unfold sSeq
  rw [G]
  rfl
/-! ### due -/
def dueT (lo hi : Option Str) : Str := match dueS lo hi with
  | some u => sd u
  | none => "no room"
theorem ge_i0 (k : Nat) : fGe [.int (k : Nat), .int 0] = some (.bl true) := by
  show some (D.bl (decide ((0 : Int) ≤ (k : Int)))) = _
  rw [decide_eq_true (by omega)]
theorem ge_m1 : fGe [.int (-1), .int 0] = some (.bl false) := rfl
theorem due_loop {lo hi : Option Str} (hlo : OkO lo) (hhi : OkO hi) (S : Sto) : ∀ (k n : Nat) (x2 x3 x4 : Option Slot), 1 ≤ n → n + k = 9 →
    match dueFrom (lo0 lo) (hi.map cs) n k with
    | some u => ∃ e', forL (.nm 2) m__law_due_0 ((List.range' n k).map fun i => .int (i : Nat)) [(some (Slot.val (oD lo))), (some (Slot.val (oD hi))), x2, x3, x4] S = .ok (.ret (.val (.str (sd u)))) e' S
    | none => ∃ y2 y3 y4, forL (.nm 2) m__law_due_0 ((List.range' n k).map fun i => .int (i : Nat)) [(some (Slot.val (oD lo))), (some (Slot.val (oD hi))), x2, x3, x4] S = .ok .next [(some (Slot.val (oD lo))), (some (Slot.val (oD hi))), y2, y3, y4] S
  | 0, n, x2, x3, x4, _, _ => ⟨x2, x3, x4, rfl⟩
  | k + 1, n, x2, x3, x4, h1, hk => by
    have fi := fitting_ok hlo hhi h1 (show n ≤ 8 by omega) S
    rw [List.range'_succ, List.map_cons]
    unfold dueFrom
    generalize hdl : oD lo = dl at fi ⊢
    generalize hdh : oD hi = dh at fi ⊢
    unfold fitD at fi
    by_cases q : okAt (lo0 lo) (hi.map cs) n = true
    · rw [if_pos q] at fi ⊢
      have lt := okAt_lt (hi_ad hhi) q
      have p8 := p8 (show n ≤ 8 by omega)
      have sn := str_num (frst (lo0 lo) n) (by omega)
      have nl := numL_len (by omega) lt
      have ln := len_sd (a := numL (frst (lo0 lo) n)) (by omega)
      have sb : ((n : Nat) : Int) - ((numL (frst (lo0 lo) n)).length : Nat) = ((n - (numL (frst (lo0 lo) n)).length : Nat) : Int) := by omega
      have mu := mul_sd 48 (n - (numL (frst (lo0 lo) n)).length) (by omega)
      rw [← zero_s] at mu
      have ad := add_sd (a := List.replicate (n - (numL (frst (lo0 lo) n)).length) 48) (b := numL (frst (lo0 lo) n)) (by simp; omega)
      have ge := ge_i0 (frst (lo0 lo) n)
      have st : m__law_due_0 [(some (Slot.val (dl))), (some (Slot.val (dh))), (some (Slot.val (.int (n : Nat)))), x3, x4] S = .ok (.ret (.val (.str (sd (dg n (frst (lo0 lo) n)))))) [(some (Slot.val (dl))), (some (Slot.val (dh))), (some (Slot.val (.int (n : Nat)))), (some (Slot.val (.int ((frst (lo0 lo) n : Nat) : Int)))), (some (Slot.val (.str (sd (numL (frst (lo0 lo) n))))))] S := by
        unfold dg
        simp only [m__law_due_0, Int.ofNat_lt, Int.ofNat_le, bind_ok, bind_exc, bind_stuck, sizeLine_eq, fMod_i, fFdiv_i, fMul_i, fMul_i1, fMul_i2, fm0, fm1, fAdd_i, fSub_i, fPow_i, fAdd_l, fAdd_t, fAdd_s, fLt_i, fLe_i, fGt_i, fGe_i, evO, resW, evR, bPrim, bC, bVar, tTru, tBool, tNotB, tAndB, tOrB, bAnd, bOr, bNot, bIf, wIf, evX, bTup, wLst, wPrim, wVal, eFrz, wCall, sOk, sRet, sSet, sIf, sSeq, sDrop, sPar, evW, setAll, Tg.asg, Tg.asgs, mMut, sPutL, bGet, sPutD, wDisp, ePub, bIxL, sPutS, mChk, mInt, D.isStr, D.isInt, D.tru, fLen_l, fLen_t, List.length_map, iVal, itemsD, iRange, plainS, wipeE, backE, wComp, wCompB, List.all_cons, List.all_nil, Slot.isVal, Bool.and_true, Bool.true_and, Bool.and_self, fsem, env0, fill, wMove, Slot.frz, List.getElem?_cons_zero, List.getElem?_cons_succ, List.set_cons_zero, List.set_cons_succ, List.map_cons, List.map_nil, List.cons_append, List.nil_append, List.reduceReplicate, Option.getD_some, List.length_cons, List.length_nil, List.getD_cons_zero, List.getD_cons_succ, Nat.reduceAdd, Nat.reduceSub, Option.map_some, if_true, if_false, ite_true, ite_false, Bool.false_eq_true, reduceIte, Nat.reduceLeDiff, Nat.reduceEqDiff, Int.reduceEq, Int.reduceNe, Int.reduceLT, Int.reduceLE, Int.reduceNeg, Int.reducePow, ne_eq, not_false_eq_true, decide_true, decide_false, true_and, and_true, true_or, or_true, and_self, Bool.not_true, Bool.not_false, reduceCtorEq, fi, ge, sn, ln, sb, mu, ad]
      refine ⟨[(some (Slot.val (dl))), (some (Slot.val (dh))), (some (Slot.val (.int (n : Nat)))), (some (Slot.val (.int ((frst (lo0 lo) n : Nat) : Int)))), (some (Slot.val (.str (sd (numL (frst (lo0 lo) n))))))], ?_⟩
      rw [forL]
      simp only [Tg.asg, List.set_cons_succ, List.set_cons_zero, st, bind_ok]
    · rw [if_neg q] at fi ⊢
      have st : m__law_due_0 [(some (Slot.val (dl))), (some (Slot.val (dh))), (some (Slot.val (.int (n : Nat)))), x3, x4] S = .ok .next [(some (Slot.val (dl))), (some (Slot.val (dh))), (some (Slot.val (.int (n : Nat)))), (some (Slot.val (.int (-1)))), x4] S := by
        simp only [m__law_due_0, Int.ofNat_lt, Int.ofNat_le, bind_ok, bind_exc, bind_stuck, sizeLine_eq, fMod_i, fFdiv_i, fMul_i, fMul_i1, fMul_i2, fm0, fm1, fAdd_i, fSub_i, fPow_i, fAdd_l, fAdd_t, fAdd_s, fLt_i, fLe_i, fGt_i, fGe_i, evO, resW, evR, bPrim, bC, bVar, tTru, tBool, tNotB, tAndB, tOrB, bAnd, bOr, bNot, bIf, wIf, evX, bTup, wLst, wPrim, wVal, eFrz, wCall, sOk, sRet, sSet, sIf, sSeq, sDrop, sPar, evW, setAll, Tg.asg, Tg.asgs, mMut, sPutL, bGet, sPutD, wDisp, ePub, bIxL, sPutS, mChk, mInt, D.isStr, D.isInt, D.tru, fLen_l, fLen_t, List.length_map, iVal, itemsD, iRange, plainS, wipeE, backE, wComp, wCompB, List.all_cons, List.all_nil, Slot.isVal, Bool.and_true, Bool.true_and, Bool.and_self, fsem, env0, fill, wMove, Slot.frz, List.getElem?_cons_zero, List.getElem?_cons_succ, List.set_cons_zero, List.set_cons_succ, List.map_cons, List.map_nil, List.cons_append, List.nil_append, List.reduceReplicate, Option.getD_some, List.length_cons, List.length_nil, List.getD_cons_zero, List.getD_cons_succ, Nat.reduceAdd, Nat.reduceSub, Option.map_some, if_true, if_false, ite_true, ite_false, Bool.false_eq_true, reduceIte, Nat.reduceLeDiff, Nat.reduceEqDiff, Int.reduceEq, Int.reduceNe, Int.reduceLT, Int.reduceLE, Int.reduceNeg, Int.reducePow, ne_eq, not_false_eq_true, decide_true, decide_false, true_and, and_true, true_or, or_true, and_self, Bool.not_true, Bool.not_false, reduceCtorEq, fi, ge_m1]
      have ih := due_loop hlo hhi S k (n + 1) (some (Slot.val (.int (n : Nat)))) (some (Slot.val (.int (-1)))) x4 (by omega) (by omega)
      rw [hdl, hdh] at ih
      rw [forL_step rfl st]
      exact ih
theorem due_ok {lo hi : Option Str} (hlo : OkO lo) (hhi : OkO hi) (S : Sto) : F__law_due [oD lo, oD hi] S = .ok (.val (.str (dueT lo hi))) [] S := by
  have lp := due_loop hlo hhi S 8 1 none none none (by omega) (by omega)
  unfold dueT
  change match dueS lo hi with
    | some u => ∃ e', forL (.nm 2) m__law_due_0 ((List.range' 1 8).map fun i => .int (i : Nat)) [(some (Slot.val (oD lo))), (some (Slot.val (oD hi))), none, none, none] S = .ok (.ret (.val (.str (sd u)))) e' S
    | none => ∃ y2 y3 y4, forL (.nm 2) m__law_due_0 ((List.range' 1 8).map fun i => .int (i : Nat)) [(some (Slot.val (oD lo))), (some (Slot.val (oD hi))), none, none, none] S = .ok .next [(some (Slot.val (oD lo))), (some (Slot.val (oD hi))), y2, y3, y4] S at lp
  generalize oD lo = dl at lp ⊢
  generalize oD hi = dh at lp ⊢
  cases q : dueS lo hi with
  | some u =>
    rw [q] at lp
    obtain ⟨e', lp⟩ := lp
    simp only [F__law_due, m__law_due, sFor, Int.ofNat_lt, Int.ofNat_le, bind_ok, bind_exc, bind_stuck, sizeLine_eq, fMod_i, fFdiv_i, fMul_i, fMul_i1, fMul_i2, fm0, fm1, fAdd_i, fSub_i, fPow_i, fAdd_l, fAdd_t, fAdd_s, fLt_i, fLe_i, fGt_i, fGe_i, evO, resW, evR, bPrim, bC, bVar, tTru, tBool, tNotB, tAndB, tOrB, bAnd, bOr, bNot, bIf, wIf, evX, bTup, wLst, wPrim, wVal, eFrz, wCall, sOk, sRet, sSet, sIf, sSeq, sDrop, sPar, evW, setAll, Tg.asg, Tg.asgs, mMut, sPutL, bGet, sPutD, wDisp, ePub, bIxL, sPutS, mChk, mInt, D.isStr, D.isInt, D.tru, fLen_l, fLen_t, List.length_map, iVal, itemsD, iRange, plainS, wipeE, backE, wComp, wCompB, List.all_cons, List.all_nil, Slot.isVal, Bool.and_true, Bool.true_and, Bool.and_self, fsem, env0, fill, wMove, Slot.frz, List.getElem?_cons_zero, List.getElem?_cons_succ, List.set_cons_zero, List.set_cons_succ, List.map_cons, List.map_nil, List.cons_append, List.nil_append, List.reduceReplicate, Option.getD_some, List.length_cons, List.length_nil, List.getD_cons_zero, List.getD_cons_succ, Nat.reduceAdd, Nat.reduceSub, Option.map_some, if_true, if_false, ite_true, ite_false, Bool.false_eq_true, reduceIte, Nat.reduceLeDiff, Nat.reduceEqDiff, Int.reduceEq, Int.reduceNe, Int.reduceLT, Int.reduceLE, Int.reduceNeg, Int.reducePow, ne_eq, not_false_eq_true, decide_true, decide_false, true_and, and_true, true_or, or_true, and_self, Bool.not_true, Bool.not_false, reduceCtorEq, r19, lp]
  | none =>
    rw [q] at lp
    obtain ⟨y2, y3, y4, lp⟩ := lp
    simp only [F__law_due, m__law_due, sFor, Int.ofNat_lt, Int.ofNat_le, bind_ok, bind_exc, bind_stuck, sizeLine_eq, fMod_i, fFdiv_i, fMul_i, fMul_i1, fMul_i2, fm0, fm1, fAdd_i, fSub_i, fPow_i, fAdd_l, fAdd_t, fAdd_s, fLt_i, fLe_i, fGt_i, fGe_i, evO, resW, evR, bPrim, bC, bVar, tTru, tBool, tNotB, tAndB, tOrB, bAnd, bOr, bNot, bIf, wIf, evX, bTup, wLst, wPrim, wVal, eFrz, wCall, sOk, sRet, sSet, sIf, sSeq, sDrop, sPar, evW, setAll, Tg.asg, Tg.asgs, mMut, sPutL, bGet, sPutD, wDisp, ePub, bIxL, sPutS, mChk, mInt, D.isStr, D.isInt, D.tru, fLen_l, fLen_t, List.length_map, iVal, itemsD, iRange, plainS, wipeE, backE, wComp, wCompB, List.all_cons, List.all_nil, Slot.isVal, Bool.and_true, Bool.true_and, Bool.and_self, fsem, env0, fill, wMove, Slot.frz, List.getElem?_cons_zero, List.getElem?_cons_succ, List.set_cons_zero, List.set_cons_succ, List.map_cons, List.map_nil, List.cons_append, List.nil_append, List.reduceReplicate, Option.getD_some, List.length_cons, List.length_nil, List.getD_cons_zero, List.getD_cons_succ, Nat.reduceAdd, Nat.reduceSub, Option.map_some, if_true, if_false, ite_true, ite_false, Bool.false_eq_true, reduceIte, Nat.reduceLeDiff, Nat.reduceEqDiff, Int.reduceEq, Int.reduceNe, Int.reduceLT, Int.reduceLE, Int.reduceNeg, Int.reducePow, ne_eq, not_false_eq_true, decide_true, decide_false, true_and, and_true, true_or, or_true, and_self, Bool.not_true, Bool.not_false, reduceCtorEq, r19, lp]

/-! ### places, by the law -/
theorem lt_l9 (n : Nat) : fLt [.int (n : Nat), .int 9] = some (.bl (decide (n < 9))) := by
  show some (D.bl (decide ((n : Int) < (9 : Int)))) = _
  congr 2
  exact decide_eq_decide.mpr (by omega)
theorem lp_comp {w : Str} (hl : w.length ≤ 1000) (S : Sto) : compL [1] (.nm 1) m__law_is_place_0 (turn1 (bVar 1)) ((cs w).map chD) [] [(some (Slot.val (.str w))), none] S = .ok (((cs w).filter fun c => !decide (c ∈ cs figs)).map chD) [(some (Slot.val (.str w))), none] S := by
  have := compL_map (vs := [1]) (t := .nm 1) (tt := m__law_is_place_0) (m := bVar 1) (e0 := [(some (Slot.val (.str w))), none]) (S := S) chD (fun c => !decide (c ∈ cs figs)) chD (cs w) [] (by rw [cs_len]; simp; omega) fun c _ =>
    ⟨[(some (Slot.val (.str w))), (some (Slot.val (chD c)))], [(some (Slot.val (.str w))), (some (Slot.val (chD c)))], [(some (Slot.val (.str w))), (some (Slot.val (chD c)))], rfl, by
      have := nin_one c figs
      have this : fNotIn [chD c, .str "0123456789"] = _ := this
      simp only [m__law_is_place_0, Int.ofNat_lt, Int.ofNat_le, bind_ok, bind_exc, bind_stuck, sizeLine_eq, fMod_i, fFdiv_i, fMul_i, fMul_i1, fMul_i2, fm0, fm1, fAdd_i, fSub_i, fPow_i, fAdd_l, fAdd_t, fAdd_s, fLt_i, fLe_i, fGt_i, fGe_i, evO, resW, evR, bPrim, bC, bVar, tTru, tBool, tNotB, tAndB, tOrB, bAnd, bOr, bNot, bIf, wIf, evX, bTup, wLst, wPrim, wVal, eFrz, wCall, sOk, sRet, sSet, sIf, sSeq, sDrop, sPar, evW, setAll, Tg.asg, Tg.asgs, mMut, sPutL, bGet, sPutD, wDisp, ePub, bIxL, sPutS, mChk, mInt, D.isStr, D.isInt, D.tru, fLen_l, fLen_t, List.length_map, iVal, itemsD, iRange, plainS, wipeE, backE, wComp, wCompB, List.all_cons, List.all_nil, Slot.isVal, Bool.and_true, Bool.true_and, Bool.and_self, fsem, env0, fill, wMove, Slot.frz, List.getElem?_cons_zero, List.getElem?_cons_succ, List.set_cons_zero, List.set_cons_succ, List.map_cons, List.map_nil, List.cons_append, List.nil_append, List.reduceReplicate, Option.getD_some, List.length_cons, List.length_nil, List.getD_cons_zero, List.getD_cons_succ, Nat.reduceAdd, Nat.reduceSub, Option.map_some, if_true, if_false, ite_true, ite_false, Bool.false_eq_true, reduceIte, Nat.reduceLeDiff, Nat.reduceEqDiff, Int.reduceEq, Int.reduceNe, Int.reduceLT, Int.reduceLE, Int.reduceNeg, Int.reducePow, ne_eq, not_false_eq_true, decide_true, decide_false, true_and, and_true, true_or, or_true, and_self, Bool.not_true, Bool.not_false, reduceCtorEq, this], fun _ => ⟨rfl, rfl⟩, fun _ => rfl⟩
  rw [List.nil_append] at this
  exact this
theorem eq_nil : fEq [.lst [], .lst []] = some (.bl true) := rfl
theorem eq_cons (a : Nat) (r : List Nat) (h : ∀ c ∈ a :: r, c < 128) : fEq [.lst ((a :: r).map chD), .lst []] = some (.bl false) := by
  classical
  rw [eq_cmp (Wf.lst (k := 0) fun d hd => ?_).cmp rfl, decide_eq_false]
  · intro z; cases z
  · obtain ⟨c, hc, rfl⟩ := List.mem_map.mp hd
    exact Wf.str fun d hd => by
      have : d = c := by simpa using hd
      subst this
      have := h _ hc
      omega
theorem lip_long {w : Str} (h : ¬ (0 < w.length ∧ w.length < 9)) (hl : w.length ≤ 1000) (S : Sto) : F__law_is_place [.str w] S = .ok (.val (.bl false)) [] S := by
  have l := len_s (x := w) (n := 1000) hl (by omega)
  have d1 := lt_len (n := w.length)
  have d2 := lt_l9 w.length
  by_cases q : 0 < w.length
  · rw [decide_eq_true q] at d1
    rw [decide_eq_false (fun z => h ⟨q, z⟩)] at d2
    simp only [F__law_is_place, m__law_is_place, bChain, D.plain, Int.ofNat_lt, Int.ofNat_le, bind_ok, bind_exc, bind_stuck, sizeLine_eq, fMod_i, fFdiv_i, fMul_i, fMul_i1, fMul_i2, fm0, fm1, fAdd_i, fSub_i, fPow_i, fAdd_l, fAdd_t, fAdd_s, fLt_i, fLe_i, fGt_i, fGe_i, evO, resW, evR, bPrim, bC, bVar, tTru, tBool, tNotB, tAndB, tOrB, bAnd, bOr, bNot, bIf, wIf, evX, bTup, wLst, wPrim, wVal, eFrz, wCall, sOk, sRet, sSet, sIf, sSeq, sDrop, sPar, evW, setAll, Tg.asg, Tg.asgs, mMut, sPutL, bGet, sPutD, wDisp, ePub, bIxL, sPutS, mChk, mInt, D.isStr, D.isInt, D.tru, fLen_l, fLen_t, List.length_map, iVal, itemsD, iRange, plainS, wipeE, backE, wComp, wCompB, List.all_cons, List.all_nil, Slot.isVal, Bool.and_true, Bool.true_and, Bool.and_self, fsem, env0, fill, wMove, Slot.frz, List.getElem?_cons_zero, List.getElem?_cons_succ, List.set_cons_zero, List.set_cons_succ, List.map_cons, List.map_nil, List.cons_append, List.nil_append, List.reduceReplicate, Option.getD_some, List.length_cons, List.length_nil, List.getD_cons_zero, List.getD_cons_succ, Nat.reduceAdd, Nat.reduceSub, Option.map_some, if_true, if_false, ite_true, ite_false, Bool.false_eq_true, reduceIte, Nat.reduceLeDiff, Nat.reduceEqDiff, Int.reduceEq, Int.reduceNe, Int.reduceLT, Int.reduceLE, Int.reduceNeg, Int.reducePow, ne_eq, not_false_eq_true, decide_true, decide_false, true_and, and_true, true_or, or_true, and_self, Bool.not_true, Bool.not_false, reduceCtorEq, isi_s, l, d1, d2]
  · rw [decide_eq_false q] at d1
    simp only [F__law_is_place, m__law_is_place, bChain, D.plain, Int.ofNat_lt, Int.ofNat_le, bind_ok, bind_exc, bind_stuck, sizeLine_eq, fMod_i, fFdiv_i, fMul_i, fMul_i1, fMul_i2, fm0, fm1, fAdd_i, fSub_i, fPow_i, fAdd_l, fAdd_t, fAdd_s, fLt_i, fLe_i, fGt_i, fGe_i, evO, resW, evR, bPrim, bC, bVar, tTru, tBool, tNotB, tAndB, tOrB, bAnd, bOr, bNot, bIf, wIf, evX, bTup, wLst, wPrim, wVal, eFrz, wCall, sOk, sRet, sSet, sIf, sSeq, sDrop, sPar, evW, setAll, Tg.asg, Tg.asgs, mMut, sPutL, bGet, sPutD, wDisp, ePub, bIxL, sPutS, mChk, mInt, D.isStr, D.isInt, D.tru, fLen_l, fLen_t, List.length_map, iVal, itemsD, iRange, plainS, wipeE, backE, wComp, wCompB, List.all_cons, List.all_nil, Slot.isVal, Bool.and_true, Bool.true_and, Bool.and_self, fsem, env0, fill, wMove, Slot.frz, List.getElem?_cons_zero, List.getElem?_cons_succ, List.set_cons_zero, List.set_cons_succ, List.map_cons, List.map_nil, List.cons_append, List.nil_append, List.reduceReplicate, Option.getD_some, List.length_cons, List.length_nil, List.getD_cons_zero, List.getD_cons_succ, Nat.reduceAdd, Nat.reduceSub, Option.map_some, if_true, if_false, ite_true, ite_false, Bool.false_eq_true, reduceIte, Nat.reduceLeDiff, Nat.reduceEqDiff, Int.reduceEq, Int.reduceNe, Int.reduceLT, Int.reduceLE, Int.reduceNeg, Int.reducePow, ne_eq, not_false_eq_true, decide_true, decide_false, true_and, and_true, true_or, or_true, and_self, Bool.not_true, Bool.not_false, reduceCtorEq, isi_s, l, d1]
theorem lip_body {w : Str} {l : List Nat} {c : Nat} (h : 0 < w.length ∧ w.length < 9) (hc : cs w = l ++ [c]) {b : Bool} (hb : fEq [.lst (((cs w).filter fun c => !decide (c ∈ cs figs)).map chD), .lst []] = some (.bl b)) (S : Sto) : F__law_is_place [.str w] S = .ok (.val (.bl (b && !decide (c = 48)))) [] S := by
  have ln := len_s (x := w) (n := 1000) (by omega) (by omega)
  have d1 := lt_len (n := w.length)
  have d2 := lt_l9 w.length
  rw [decide_eq_true h.1] at d1
  rw [decide_eq_true h.2] at d2
  have it := items_s (x := w) (n := 1000) (by omega) (by omega)
  have cm := lp_comp (w := w) (by omega) S
  have la := last_s hc (n := 1000) (by omega) (by omega)
  have ne := ne_0 c
  have it : (if w.length ≤ 16777216 then some (List.map chD (cs w)) else none) = some (List.map chD (cs w)) := if_pos (by omega)
  have ng : negF [.int 1] = some (.int (-1)) := rfl
  cases b with
  | true =>
    generalize hq : ((cs w).filter fun c => !decide (c ∈ cs figs)).map chD = q at cm hb
    have hz : q.length ≤ 16777216 := by rw [← hq, List.length_map]; exact Nat.le_trans (List.length_filter_le _ _) (by rw [cs_len]; omega)
    simp only [F__law_is_place, m__law_is_place, bChain, D.plain, Int.ofNat_lt, Int.ofNat_le, bind_ok, bind_exc, bind_stuck, sizeLine_eq, fMod_i, fFdiv_i, fMul_i, fMul_i1, fMul_i2, fm0, fm1, fAdd_i, fSub_i, fPow_i, fAdd_l, fAdd_t, fAdd_s, fLt_i, fLe_i, fGt_i, fGe_i, evO, resW, evR, bPrim, bC, bVar, tTru, tBool, tNotB, tAndB, tOrB, bAnd, bOr, bNot, bIf, wIf, evX, bTup, wLst, wPrim, wVal, eFrz, wCall, sOk, sRet, sSet, sIf, sSeq, sDrop, sPar, evW, setAll, Tg.asg, Tg.asgs, mMut, sPutL, bGet, sPutD, wDisp, ePub, bIxL, sPutS, mChk, mInt, D.isStr, D.isInt, D.tru, fLen_l, fLen_t, List.length_map, iVal, itemsD, iRange, plainS, wipeE, backE, wComp, wCompB, List.all_cons, List.all_nil, Slot.isVal, Bool.and_true, Bool.true_and, Bool.and_self, fsem, env0, fill, wMove, Slot.frz, List.getElem?_cons_zero, List.getElem?_cons_succ, List.set_cons_zero, List.set_cons_succ, List.map_cons, List.map_nil, List.cons_append, List.nil_append, List.reduceReplicate, Option.getD_some, List.length_cons, List.length_nil, List.getD_cons_zero, List.getD_cons_succ, Nat.reduceAdd, Nat.reduceSub, Option.map_some, if_true, if_false, ite_true, ite_false, Bool.false_eq_true, reduceIte, Nat.reduceLeDiff, Nat.reduceEqDiff, Int.reduceEq, Int.reduceNe, Int.reduceLT, Int.reduceLE, Int.reduceNeg, Int.reducePow, ne_eq, not_false_eq_true, decide_true, decide_false, true_and, and_true, true_or, or_true, and_self, Bool.not_true, Bool.not_false, reduceCtorEq, isi_s, ln, d1, d2, it, cm, hz, hb, ng, la, ne]
  | false =>
    generalize hq : ((cs w).filter fun c => !decide (c ∈ cs figs)).map chD = q at cm hb
    have hz : q.length ≤ 16777216 := by rw [← hq, List.length_map]; exact Nat.le_trans (List.length_filter_le _ _) (by rw [cs_len]; omega)
    simp only [F__law_is_place, m__law_is_place, bChain, D.plain, Int.ofNat_lt, Int.ofNat_le, bind_ok, bind_exc, bind_stuck, sizeLine_eq, fMod_i, fFdiv_i, fMul_i, fMul_i1, fMul_i2, fm0, fm1, fAdd_i, fSub_i, fPow_i, fAdd_l, fAdd_t, fAdd_s, fLt_i, fLe_i, fGt_i, fGe_i, evO, resW, evR, bPrim, bC, bVar, tTru, tBool, tNotB, tAndB, tOrB, bAnd, bOr, bNot, bIf, wIf, evX, bTup, wLst, wPrim, wVal, eFrz, wCall, sOk, sRet, sSet, sIf, sSeq, sDrop, sPar, evW, setAll, Tg.asg, Tg.asgs, mMut, sPutL, bGet, sPutD, wDisp, ePub, bIxL, sPutS, mChk, mInt, D.isStr, D.isInt, D.tru, fLen_l, fLen_t, List.length_map, iVal, itemsD, iRange, plainS, wipeE, backE, wComp, wCompB, List.all_cons, List.all_nil, Slot.isVal, Bool.and_true, Bool.true_and, Bool.and_self, fsem, env0, fill, wMove, Slot.frz, List.getElem?_cons_zero, List.getElem?_cons_succ, List.set_cons_zero, List.set_cons_succ, List.map_cons, List.map_nil, List.cons_append, List.nil_append, List.reduceReplicate, Option.getD_some, List.length_cons, List.length_nil, List.getD_cons_zero, List.getD_cons_succ, Nat.reduceAdd, Nat.reduceSub, Option.map_some, if_true, if_false, ite_true, ite_false, Bool.false_eq_true, reduceIte, Nat.reduceLeDiff, Nat.reduceEqDiff, Int.reduceEq, Int.reduceNe, Int.reduceLT, Int.reduceLE, Int.reduceNeg, Int.reducePow, ne_eq, not_false_eq_true, decide_true, decide_false, true_and, and_true, true_or, or_true, and_self, Bool.not_true, Bool.not_false, reduceCtorEq, isi_s, ln, d1, d2, it, cm, hz, hb, Bool.false_and]
theorem Pl.law {w : Str} (h : Pl w) (S : Sto) : F__law_is_place [.str w] S = .ok (.val (.bl true)) [] S := by
  obtain ⟨l, c, e, hc⟩ := h.last
  have l8 := h.l8
  have f0 : ((cs w).filter fun c => !decide (c ∈ cs figs)) = [] := List.filter_eq_nil_iff.mpr fun d hd => by
    rw [decide_eq_true (mem_figs (h.ad d hd))]; simp
  have b := lip_body ⟨h.l0, by omega⟩ e (b := true) (by rw [f0]; exact eq_nil) S
  rw [b, decide_eq_false hc]; rfl
structure Odd (d : D) : Prop where
  nn : fNotN [d, .non] = some (.bl true)
  ip : ∀ S, F_is_place [d] S = .ok (.val (.bl false)) [] S
  lp : ∀ S, F__law_is_place [d] S = .ok (.val (.bl false)) [] S
theorem odd_other {d : D} (h1 : fNotN [d, .non] = some (.bl true)) (h2 : fIsi [d, .ty "str"] = some (.bl false)) : Odd d := ⟨h1, fun S => by
  have w : F_is_word [d, .str "0123456789", .int 8] S = .ok (.val (.bl false)) [] S := by simp only [F_is_word, m_is_word, Int.ofNat_lt, Int.ofNat_le, bind_ok, bind_exc, bind_stuck, sizeLine_eq, fMod_i, fFdiv_i, fMul_i, fMul_i1, fMul_i2, fm0, fm1, fAdd_i, fSub_i, fPow_i, fAdd_l, fAdd_t, fAdd_s, fLt_i, fLe_i, fGt_i, fGe_i, evO, resW, evR, bPrim, bC, bVar, tTru, tBool, tNotB, tAndB, tOrB, bAnd, bOr, bNot, bIf, wIf, evX, bTup, wLst, wPrim, wVal, eFrz, wCall, sOk, sRet, sSet, sIf, sSeq, sDrop, sPar, evW, setAll, Tg.asg, Tg.asgs, mMut, sPutL, bGet, sPutD, wDisp, ePub, bIxL, sPutS, mChk, mInt, D.isStr, D.isInt, D.tru, fLen_l, fLen_t, List.length_map, iVal, itemsD, iRange, plainS, wipeE, backE, wComp, wCompB, List.all_cons, List.all_nil, Slot.isVal, Bool.and_true, Bool.true_and, Bool.and_self, fsem, env0, fill, wMove, Slot.frz, List.getElem?_cons_zero, List.getElem?_cons_succ, List.set_cons_zero, List.set_cons_succ, List.map_cons, List.map_nil, List.cons_append, List.nil_append, List.reduceReplicate, Option.getD_some, List.length_cons, List.length_nil, List.getD_cons_zero, List.getD_cons_succ, Nat.reduceAdd, Nat.reduceSub, Option.map_some, if_true, if_false, ite_true, ite_false, Bool.false_eq_true, reduceIte, Nat.reduceLeDiff, Nat.reduceEqDiff, Int.reduceEq, Int.reduceNe, Int.reduceLT, Int.reduceLE, Int.reduceNeg, Int.reducePow, ne_eq, not_false_eq_true, decide_true, decide_false, true_and, and_true, true_or, or_true, and_self, Bool.not_true, Bool.not_false, reduceCtorEq, h2]
  simp only [F_is_place, m_is_place, Int.ofNat_lt, Int.ofNat_le, bind_ok, bind_exc, bind_stuck, sizeLine_eq, fMod_i, fFdiv_i, fMul_i, fMul_i1, fMul_i2, fm0, fm1, fAdd_i, fSub_i, fPow_i, fAdd_l, fAdd_t, fAdd_s, fLt_i, fLe_i, fGt_i, fGe_i, evO, resW, evR, bPrim, bC, bVar, tTru, tBool, tNotB, tAndB, tOrB, bAnd, bOr, bNot, bIf, wIf, evX, bTup, wLst, wPrim, wVal, eFrz, wCall, sOk, sRet, sSet, sIf, sSeq, sDrop, sPar, evW, setAll, Tg.asg, Tg.asgs, mMut, sPutL, bGet, sPutD, wDisp, ePub, bIxL, sPutS, mChk, mInt, D.isStr, D.isInt, D.tru, fLen_l, fLen_t, List.length_map, iVal, itemsD, iRange, plainS, wipeE, backE, wComp, wCompB, List.all_cons, List.all_nil, Slot.isVal, Bool.and_true, Bool.true_and, Bool.and_self, fsem, env0, fill, wMove, Slot.frz, List.getElem?_cons_zero, List.getElem?_cons_succ, List.set_cons_zero, List.set_cons_succ, List.map_cons, List.map_nil, List.cons_append, List.nil_append, List.reduceReplicate, Option.getD_some, List.length_cons, List.length_nil, List.getD_cons_zero, List.getD_cons_succ, Nat.reduceAdd, Nat.reduceSub, Option.map_some, if_true, if_false, ite_true, ite_false, Bool.false_eq_true, reduceIte, Nat.reduceLeDiff, Nat.reduceEqDiff, Int.reduceEq, Int.reduceNe, Int.reduceLT, Int.reduceLE, Int.reduceNeg, Int.reducePow, ne_eq, not_false_eq_true, decide_true, decide_false, true_and, and_true, true_or, or_true, and_self, Bool.not_true, Bool.not_false, reduceCtorEq, w], fun S => by simp only [F__law_is_place, m__law_is_place, Int.ofNat_lt, Int.ofNat_le, bind_ok, bind_exc, bind_stuck, sizeLine_eq, fMod_i, fFdiv_i, fMul_i, fMul_i1, fMul_i2, fm0, fm1, fAdd_i, fSub_i, fPow_i, fAdd_l, fAdd_t, fAdd_s, fLt_i, fLe_i, fGt_i, fGe_i, evO, resW, evR, bPrim, bC, bVar, tTru, tBool, tNotB, tAndB, tOrB, bAnd, bOr, bNot, bIf, wIf, evX, bTup, wLst, wPrim, wVal, eFrz, wCall, sOk, sRet, sSet, sIf, sSeq, sDrop, sPar, evW, setAll, Tg.asg, Tg.asgs, mMut, sPutL, bGet, sPutD, wDisp, ePub, bIxL, sPutS, mChk, mInt, D.isStr, D.isInt, D.tru, fLen_l, fLen_t, List.length_map, iVal, itemsD, iRange, plainS, wipeE, backE, wComp, wCompB, List.all_cons, List.all_nil, Slot.isVal, Bool.and_true, Bool.true_and, Bool.and_self, fsem, env0, fill, wMove, Slot.frz, List.getElem?_cons_zero, List.getElem?_cons_succ, List.set_cons_zero, List.set_cons_succ, List.map_cons, List.map_nil, List.cons_append, List.nil_append, List.reduceReplicate, Option.getD_some, List.length_cons, List.length_nil, List.getD_cons_zero, List.getD_cons_succ, Nat.reduceAdd, Nat.reduceSub, Option.map_some, if_true, if_false, ite_true, ite_false, Bool.false_eq_true, reduceIte, Nat.reduceLeDiff, Nat.reduceEqDiff, Int.reduceEq, Int.reduceNe, Int.reduceLT, Int.reduceLE, Int.reduceNeg, Int.reducePow, ne_eq, not_false_eq_true, decide_true, decide_false, true_and, and_true, true_or, or_true, and_self, Bool.not_true, Bool.not_false, reduceCtorEq, h2]⟩
theorem odd_str {w : Str} (hl : w.length ≤ 100) (h1 : isPlace w = false) (h2 : ∀ S, F__law_is_place [.str w] S = .ok (.val (.bl false)) [] S) : Odd (.str w) := ⟨rfl, fun S => by rw [is_place_ok (n := 100) hl (by omega), h1], h2⟩
theorem odd_zero {w : Str} {l : List Nat} (hl : 0 < w.length ∧ w.length < 9) (h1 : isPlace w = false) (hc : cs w = l ++ [48]) (ha : ∀ c ∈ cs w, c < 128) : Odd (.str w) := odd_str (by omega) h1 fun S => by
  have b := lip_body hl hc (b := decide (((cs w).filter fun c => !decide (c ∈ cs figs)) = [])) (by
    by_cases q : ((cs w).filter fun c => !decide (c ∈ cs figs)) = []
    · rw [decide_eq_true q, q]; exact eq_nil
    · rw [decide_eq_false q]
      cases z : ((cs w).filter fun c => !decide (c ∈ cs figs)) with
      | nil => exact absurd z q
      | cons a r => exact eq_cons a r fun c hc => ha c (List.mem_filter.mp (z ▸ hc)).1) S
  rw [b, decide_eq_true rfl, Bool.not_true, Bool.and_false]
theorem odd_sign {w : Str} {l : List Nat} {c : Nat} (hl : 0 < w.length ∧ w.length < 9) (h1 : isPlace w = false) (hc : cs w = l ++ [c]) (hf : ((cs w).filter fun c => !decide (c ∈ cs figs)) ≠ []) (ha : ∀ c ∈ cs w, c < 128) : Odd (.str w) := odd_str (by omega) h1 fun S => by
  have b := lip_body hl hc (b := false) (by
      cases z : ((cs w).filter fun c => !decide (c ∈ cs figs)) with
      | nil => exact absurd z hf
      | cons a r => exact eq_cons a r fun c hc => ha c (List.mem_filter.mp (z ▸ hc)).1) S
  rw [b, Bool.false_and]
theorem odd_5 : Odd (.int 5) := odd_other rfl rfl
theorem odd_t : Odd (.bl true) := odd_other rfl rfl
theorem odd_l : Odd (.lst [.str "1"]) := odd_other rfl rfl
theorem odd_p : Odd (.tup [.str "1"]) := odd_other rfl rfl
theorem odd_e : Odd (.str "") := odd_str (by decide +kernel) (by decide +kernel) (lip_long (by decide +kernel) (by decide +kernel))
theorem odd_9 : Odd (.str "123456789") := odd_str (by decide +kernel) (by decide +kernel) (lip_long (by decide +kernel) (by decide +kernel))
theorem odd_0 : Odd (.str "0") := odd_zero (l := []) (by decide +kernel) (by decide +kernel) (by decide +kernel) (by decide +kernel)
theorem odd_10 : Odd (.str "10") := odd_zero (l := [49]) (by decide +kernel) (by decide +kernel) (by decide +kernel) (by decide +kernel)
theorem odd_a : Odd (.str "a") := odd_sign (l := []) (c := 97) (ha := by decide +kernel) (by decide +kernel) (by decide +kernel) (by decide +kernel) (by decide +kernel)
theorem odd_1 : Odd (.str "1 ") := odd_sign (l := [49]) (c := 32) (ha := by decide +kernel) (by decide +kernel) (by decide +kernel) (by decide +kernel) (by decide +kernel)

/-! ### right -/
theorem b_odd1 {d1 d2 : D} (h : Odd d1) (S : Sto) : F_between [d1, d2] S = .exc exP [] S := by
  have n := h.nn
  have p := h.ip S
  have st : m_between_0 [(some (Slot.val (d1))), (some (Slot.val (d2))), (some (Slot.val (d1))), none] S = .exc exP [(some (Slot.val (d1))), (some (Slot.val (d2))), (some (Slot.val (d1))), none] S := by
    simp only [m_between_0, sRaise, Int.ofNat_lt, Int.ofNat_le, bind_ok, bind_exc, bind_stuck, sizeLine_eq, fMod_i, fFdiv_i, fMul_i, fMul_i1, fMul_i2, fm0, fm1, fAdd_i, fSub_i, fPow_i, fAdd_l, fAdd_t, fAdd_s, fLt_i, fLe_i, fGt_i, fGe_i, evO, resW, evR, bPrim, bC, bVar, tTru, tBool, tNotB, tAndB, tOrB, bAnd, bOr, bNot, bIf, wIf, evX, bTup, wLst, wPrim, wVal, eFrz, wCall, sOk, sRet, sSet, sIf, sSeq, sDrop, sPar, evW, setAll, Tg.asg, Tg.asgs, mMut, sPutL, bGet, sPutD, wDisp, ePub, bIxL, sPutS, mChk, mInt, D.isStr, D.isInt, D.tru, fLen_l, fLen_t, List.length_map, iVal, itemsD, iRange, plainS, wipeE, backE, wComp, wCompB, List.all_cons, List.all_nil, Slot.isVal, Bool.and_true, Bool.true_and, Bool.and_self, fsem, env0, fill, wMove, Slot.frz, List.getElem?_cons_zero, List.getElem?_cons_succ, List.set_cons_zero, List.set_cons_succ, List.map_cons, List.map_nil, List.cons_append, List.nil_append, List.reduceReplicate, Option.getD_some, List.length_cons, List.length_nil, List.getD_cons_zero, List.getD_cons_succ, Nat.reduceAdd, Nat.reduceSub, Option.map_some, if_true, if_false, ite_true, ite_false, Bool.false_eq_true, reduceIte, Nat.reduceLeDiff, Nat.reduceEqDiff, Int.reduceEq, Int.reduceNe, Int.reduceLT, Int.reduceLE, Int.reduceNeg, Int.reducePow, ne_eq, not_false_eq_true, decide_true, decide_false, true_and, and_true, true_or, or_true, and_self, Bool.not_true, Bool.not_false, reduceCtorEq, n, p, exP]
  have lp : forL (.nm 2) m_between_0 [d1, d2] [(some (Slot.val (d1))), (some (Slot.val (d2))), none, none] S = .exc exP [(some (Slot.val (d1))), (some (Slot.val (d2))), (some (Slot.val (d1))), none] S := by
    rw [forL]
    simp only [Tg.asg, List.set_cons_succ, List.set_cons_zero, st, bind_exc]
  simp only [F_between, m_between, sFor, Int.ofNat_lt, Int.ofNat_le, bind_ok, bind_exc, bind_stuck, sizeLine_eq, fMod_i, fFdiv_i, fMul_i, fMul_i1, fMul_i2, fm0, fm1, fAdd_i, fSub_i, fPow_i, fAdd_l, fAdd_t, fAdd_s, fLt_i, fLe_i, fGt_i, fGe_i, evO, resW, evR, bPrim, bC, bVar, tTru, tBool, tNotB, tAndB, tOrB, bAnd, bOr, bNot, bIf, wIf, evX, bTup, wLst, wPrim, wVal, eFrz, wCall, sOk, sRet, sSet, sIf, sSeq, sDrop, sPar, evW, setAll, Tg.asg, Tg.asgs, mMut, sPutL, bGet, sPutD, wDisp, ePub, bIxL, sPutS, mChk, mInt, D.isStr, D.isInt, D.tru, fLen_l, fLen_t, List.length_map, iVal, itemsD, iRange, plainS, wipeE, backE, wComp, wCompB, List.all_cons, List.all_nil, Slot.isVal, Bool.and_true, Bool.true_and, Bool.and_self, fsem, env0, fill, wMove, Slot.frz, List.getElem?_cons_zero, List.getElem?_cons_succ, List.set_cons_zero, List.set_cons_succ, List.map_cons, List.map_nil, List.cons_append, List.nil_append, List.reduceReplicate, Option.getD_some, List.length_cons, List.length_nil, List.getD_cons_zero, List.getD_cons_succ, Nat.reduceAdd, Nat.reduceSub, Option.map_some, if_true, if_false, ite_true, ite_false, Bool.false_eq_true, reduceIte, Nat.reduceLeDiff, Nat.reduceEqDiff, Int.reduceEq, Int.reduceNe, Int.reduceLT, Int.reduceLE, Int.reduceNeg, Int.reducePow, ne_eq, not_false_eq_true, decide_true, decide_false, true_and, and_true, true_or, or_true, and_self, Bool.not_true, Bool.not_false, reduceCtorEq, lp]
theorem b_odd2 {o : Option Str} {d2 : D} (ho : OkO o) (h : Odd d2) (S : Sto) : F_between [oD o, d2] S = .exc exP [] S := by
  have n := h.nn
  have p := h.ip S
  have s1 := b0_ok ho (some (Slot.val (oD o))) (some (Slot.val (d2))) none S
  generalize oD o = d1 at s1 ⊢
  have st : m_between_0 [(some (Slot.val (d1))), (some (Slot.val (d2))), (some (Slot.val (d2))), none] S = .exc exP [(some (Slot.val (d1))), (some (Slot.val (d2))), (some (Slot.val (d2))), none] S := by
    simp only [m_between_0, sRaise, Int.ofNat_lt, Int.ofNat_le, bind_ok, bind_exc, bind_stuck, sizeLine_eq, fMod_i, fFdiv_i, fMul_i, fMul_i1, fMul_i2, fm0, fm1, fAdd_i, fSub_i, fPow_i, fAdd_l, fAdd_t, fAdd_s, fLt_i, fLe_i, fGt_i, fGe_i, evO, resW, evR, bPrim, bC, bVar, tTru, tBool, tNotB, tAndB, tOrB, bAnd, bOr, bNot, bIf, wIf, evX, bTup, wLst, wPrim, wVal, eFrz, wCall, sOk, sRet, sSet, sIf, sSeq, sDrop, sPar, evW, setAll, Tg.asg, Tg.asgs, mMut, sPutL, bGet, sPutD, wDisp, ePub, bIxL, sPutS, mChk, mInt, D.isStr, D.isInt, D.tru, fLen_l, fLen_t, List.length_map, iVal, itemsD, iRange, plainS, wipeE, backE, wComp, wCompB, List.all_cons, List.all_nil, Slot.isVal, Bool.and_true, Bool.true_and, Bool.and_self, fsem, env0, fill, wMove, Slot.frz, List.getElem?_cons_zero, List.getElem?_cons_succ, List.set_cons_zero, List.set_cons_succ, List.map_cons, List.map_nil, List.cons_append, List.nil_append, List.reduceReplicate, Option.getD_some, List.length_cons, List.length_nil, List.getD_cons_zero, List.getD_cons_succ, Nat.reduceAdd, Nat.reduceSub, Option.map_some, if_true, if_false, ite_true, ite_false, Bool.false_eq_true, reduceIte, Nat.reduceLeDiff, Nat.reduceEqDiff, Int.reduceEq, Int.reduceNe, Int.reduceLT, Int.reduceLE, Int.reduceNeg, Int.reducePow, ne_eq, not_false_eq_true, decide_true, decide_false, true_and, and_true, true_or, or_true, and_self, Bool.not_true, Bool.not_false, reduceCtorEq, n, p, exP]
  have lp : forL (.nm 2) m_between_0 [d1, d2] [(some (Slot.val (d1))), (some (Slot.val (d2))), none, none] S = .exc exP [(some (Slot.val (d1))), (some (Slot.val (d2))), (some (Slot.val (d2))), none] S := by
    rw [forL_step rfl s1, forL]
    simp only [Tg.asg, List.set_cons_succ, List.set_cons_zero, st, bind_exc]
  simp only [F_between, m_between, sFor, Int.ofNat_lt, Int.ofNat_le, bind_ok, bind_exc, bind_stuck, sizeLine_eq, fMod_i, fFdiv_i, fMul_i, fMul_i1, fMul_i2, fm0, fm1, fAdd_i, fSub_i, fPow_i, fAdd_l, fAdd_t, fAdd_s, fLt_i, fLe_i, fGt_i, fGe_i, evO, resW, evR, bPrim, bC, bVar, tTru, tBool, tNotB, tAndB, tOrB, bAnd, bOr, bNot, bIf, wIf, evX, bTup, wLst, wPrim, wVal, eFrz, wCall, sOk, sRet, sSet, sIf, sSeq, sDrop, sPar, evW, setAll, Tg.asg, Tg.asgs, mMut, sPutL, bGet, sPutD, wDisp, ePub, bIxL, sPutS, mChk, mInt, D.isStr, D.isInt, D.tru, fLen_l, fLen_t, List.length_map, iVal, itemsD, iRange, plainS, wipeE, backE, wComp, wCompB, List.all_cons, List.all_nil, Slot.isVal, Bool.and_true, Bool.true_and, Bool.and_self, fsem, env0, fill, wMove, Slot.frz, List.getElem?_cons_zero, List.getElem?_cons_succ, List.set_cons_zero, List.set_cons_succ, List.map_cons, List.map_nil, List.cons_append, List.nil_append, List.reduceReplicate, Option.getD_some, List.length_cons, List.length_nil, List.getD_cons_zero, List.getD_cons_succ, Nat.reduceAdd, Nat.reduceSub, Option.map_some, if_true, if_false, ite_true, ite_false, Bool.false_eq_true, reduceIte, Nat.reduceLeDiff, Nat.reduceEqDiff, Int.reduceEq, Int.reduceNe, Int.reduceLT, Int.reduceLE, Int.reduceNeg, Int.reducePow, ne_eq, not_false_eq_true, decide_true, decide_false, true_and, and_true, true_or, or_true, and_self, Bool.not_true, Bool.not_false, reduceCtorEq, lp]
theorem bb : fEq [.lst [.str "bad", .str "bad"], .lst [.str "bad", .str "bad"]] = some (.bl true) := by
  classical
  rw [eq_cmp (by decide +kernel) (by decide +kernel), decide_eq_true rfl]
theorem r_odd {d d1 d2 : D} {x3 x4 : Option Slot} {S : Sto} (h : Odd d) (hb : F_between [d1, d2] S = .exc exP [] S) : m__law_right_0 [(some (Slot.val (d1))), (some (Slot.val (d2))), (some (Slot.val (d))), x3, x4] S = .ok (.ret (.val (.bl true))) [(some (Slot.val (d1))), (some (Slot.val (d2))), (some (Slot.val (d))), x3, x4] S := by
  have n := h.nn
  have p := h.lp S
  have sd := said_bad hb
  simp only [m__law_right_0, Int.ofNat_lt, Int.ofNat_le, bind_ok, bind_exc, bind_stuck, sizeLine_eq, fMod_i, fFdiv_i, fMul_i, fMul_i1, fMul_i2, fm0, fm1, fAdd_i, fSub_i, fPow_i, fAdd_l, fAdd_t, fAdd_s, fLt_i, fLe_i, fGt_i, fGe_i, evO, resW, evR, bPrim, bC, bVar, tTru, tBool, tNotB, tAndB, tOrB, bAnd, bOr, bNot, bIf, wIf, evX, bTup, wLst, wPrim, wVal, eFrz, wCall, sOk, sRet, sSet, sIf, sSeq, sDrop, sPar, evW, setAll, Tg.asg, Tg.asgs, mMut, sPutL, bGet, sPutD, wDisp, ePub, bIxL, sPutS, mChk, mInt, D.isStr, D.isInt, D.tru, fLen_l, fLen_t, List.length_map, iVal, itemsD, iRange, plainS, wipeE, backE, wComp, wCompB, List.all_cons, List.all_nil, Slot.isVal, Bool.and_true, Bool.true_and, Bool.and_self, fsem, env0, fill, wMove, Slot.frz, List.getElem?_cons_zero, List.getElem?_cons_succ, List.set_cons_zero, List.set_cons_succ, List.map_cons, List.map_nil, List.cons_append, List.nil_append, List.reduceReplicate, Option.getD_some, List.length_cons, List.length_nil, List.getD_cons_zero, List.getD_cons_succ, Nat.reduceAdd, Nat.reduceSub, Option.map_some, if_true, if_false, ite_true, ite_false, Bool.false_eq_true, reduceIte, Nat.reduceLeDiff, Nat.reduceEqDiff, Int.reduceEq, Int.reduceNe, Int.reduceLT, Int.reduceLE, Int.reduceNeg, Int.reducePow, ne_eq, not_false_eq_true, decide_true, decide_false, true_and, and_true, true_or, or_true, and_self, Bool.not_true, Bool.not_false, reduceCtorEq, n, p, sd, bb]
theorem r_ok {o : Option Str} {d1 d2 : D} {x3 x4 : Option Slot} {S : Sto} (h : OkO o) : m__law_right_0 [(some (Slot.val (d1))), (some (Slot.val (d2))), (some (Slot.val (oD o))), x3, x4] S = .ok .next [(some (Slot.val (d1))), (some (Slot.val (d2))), (some (Slot.val (oD o))), x3, x4] S := by
  cases o with
  | none => simp only [m__law_right_0, Int.ofNat_lt, Int.ofNat_le, bind_ok, bind_exc, bind_stuck, sizeLine_eq, fMod_i, fFdiv_i, fMul_i, fMul_i1, fMul_i2, fm0, fm1, fAdd_i, fSub_i, fPow_i, fAdd_l, fAdd_t, fAdd_s, fLt_i, fLe_i, fGt_i, fGe_i, evO, resW, evR, bPrim, bC, bVar, tTru, tBool, tNotB, tAndB, tOrB, bAnd, bOr, bNot, bIf, wIf, evX, bTup, wLst, wPrim, wVal, eFrz, wCall, sOk, sRet, sSet, sIf, sSeq, sDrop, sPar, evW, setAll, Tg.asg, Tg.asgs, mMut, sPutL, bGet, sPutD, wDisp, ePub, bIxL, sPutS, mChk, mInt, D.isStr, D.isInt, D.tru, fLen_l, fLen_t, List.length_map, iVal, itemsD, iRange, plainS, wipeE, backE, wComp, wCompB, List.all_cons, List.all_nil, Slot.isVal, Bool.and_true, Bool.true_and, Bool.and_self, fsem, env0, fill, wMove, Slot.frz, List.getElem?_cons_zero, List.getElem?_cons_succ, List.set_cons_zero, List.set_cons_succ, List.map_cons, List.map_nil, List.cons_append, List.nil_append, List.reduceReplicate, Option.getD_some, List.length_cons, List.length_nil, List.getD_cons_zero, List.getD_cons_succ, Nat.reduceAdd, Nat.reduceSub, Option.map_some, if_true, if_false, ite_true, ite_false, Bool.false_eq_true, reduceIte, Nat.reduceLeDiff, Nat.reduceEqDiff, Int.reduceEq, Int.reduceNe, Int.reduceLT, Int.reduceLE, Int.reduceNeg, Int.reducePow, ne_eq, not_false_eq_true, decide_true, decide_false, true_and, and_true, true_or, or_true, and_self, Bool.not_true, Bool.not_false, reduceCtorEq, oD, nn]
  | some x =>
    have p := (h x rfl).law S
    simp only [m__law_right_0, Int.ofNat_lt, Int.ofNat_le, bind_ok, bind_exc, bind_stuck, sizeLine_eq, fMod_i, fFdiv_i, fMul_i, fMul_i1, fMul_i2, fm0, fm1, fAdd_i, fSub_i, fPow_i, fAdd_l, fAdd_t, fAdd_s, fLt_i, fLe_i, fGt_i, fGe_i, evO, resW, evR, bPrim, bC, bVar, tTru, tBool, tNotB, tAndB, tOrB, bAnd, bOr, bNot, bIf, wIf, evX, bTup, wLst, wPrim, wVal, eFrz, wCall, sOk, sRet, sSet, sIf, sSeq, sDrop, sPar, evW, setAll, Tg.asg, Tg.asgs, mMut, sPutL, bGet, sPutD, wDisp, ePub, bIxL, sPutS, mChk, mInt, D.isStr, D.isInt, D.tru, fLen_l, fLen_t, List.length_map, iVal, itemsD, iRange, plainS, wipeE, backE, wComp, wCompB, List.all_cons, List.all_nil, Slot.isVal, Bool.and_true, Bool.true_and, Bool.and_self, fsem, env0, fill, wMove, Slot.frz, List.getElem?_cons_zero, List.getElem?_cons_succ, List.set_cons_zero, List.set_cons_succ, List.map_cons, List.map_nil, List.cons_append, List.nil_append, List.reduceReplicate, Option.getD_some, List.length_cons, List.length_nil, List.getD_cons_zero, List.getD_cons_succ, Nat.reduceAdd, Nat.reduceSub, Option.map_some, if_true, if_false, ite_true, ite_false, Bool.false_eq_true, reduceIte, Nat.reduceLeDiff, Nat.reduceEqDiff, Int.reduceEq, Int.reduceNe, Int.reduceLT, Int.reduceLE, Int.reduceNeg, Int.reducePow, ne_eq, not_false_eq_true, decide_true, decide_false, true_and, and_true, true_or, or_true, and_self, Bool.not_true, Bool.not_false, reduceCtorEq, oD, ns, p]
theorem right_odd1 {d1 d2 : D} (h : Odd d1) (S : Sto) : F__law_right [d1, d2] S = .ok (.val (.bl true)) [] S := by
  have st := r_odd (x3 := none) (x4 := none) h (b_odd1 (d2 := d2) h S)
  have lp : forL (.nm 2) m__law_right_0 [d1, d2] [(some (Slot.val (d1))), (some (Slot.val (d2))), none, none, none] S = .ok (.ret (.val (.bl true))) [(some (Slot.val (d1))), (some (Slot.val (d2))), (some (Slot.val (d1))), none, none] S := by
    rw [forL]
    simp only [Tg.asg, List.set_cons_succ, List.set_cons_zero, st, bind_ok]
  simp only [F__law_right, m__law_right, sFor, Int.ofNat_lt, Int.ofNat_le, bind_ok, bind_exc, bind_stuck, sizeLine_eq, fMod_i, fFdiv_i, fMul_i, fMul_i1, fMul_i2, fm0, fm1, fAdd_i, fSub_i, fPow_i, fAdd_l, fAdd_t, fAdd_s, fLt_i, fLe_i, fGt_i, fGe_i, evO, resW, evR, bPrim, bC, bVar, tTru, tBool, tNotB, tAndB, tOrB, bAnd, bOr, bNot, bIf, wIf, evX, bTup, wLst, wPrim, wVal, eFrz, wCall, sOk, sRet, sSet, sIf, sSeq, sDrop, sPar, evW, setAll, Tg.asg, Tg.asgs, mMut, sPutL, bGet, sPutD, wDisp, ePub, bIxL, sPutS, mChk, mInt, D.isStr, D.isInt, D.tru, fLen_l, fLen_t, List.length_map, iVal, itemsD, iRange, plainS, wipeE, backE, wComp, wCompB, List.all_cons, List.all_nil, Slot.isVal, Bool.and_true, Bool.true_and, Bool.and_self, fsem, env0, fill, wMove, Slot.frz, List.getElem?_cons_zero, List.getElem?_cons_succ, List.set_cons_zero, List.set_cons_succ, List.map_cons, List.map_nil, List.cons_append, List.nil_append, List.reduceReplicate, Option.getD_some, List.length_cons, List.length_nil, List.getD_cons_zero, List.getD_cons_succ, Nat.reduceAdd, Nat.reduceSub, Option.map_some, if_true, if_false, ite_true, ite_false, Bool.false_eq_true, reduceIte, Nat.reduceLeDiff, Nat.reduceEqDiff, Int.reduceEq, Int.reduceNe, Int.reduceLT, Int.reduceLE, Int.reduceNeg, Int.reducePow, ne_eq, not_false_eq_true, decide_true, decide_false, true_and, and_true, true_or, or_true, and_self, Bool.not_true, Bool.not_false, reduceCtorEq, lp]
theorem right_odd2 {o : Option Str} {d2 : D} (ho : OkO o) (h : Odd d2) (S : Sto) : F__law_right [oD o, d2] S = .ok (.val (.bl true)) [] S := by
  have s1 := r_ok (d1 := oD o) (d2 := d2) (x3 := none) (x4 := none) (S := S) ho
  have st := r_odd (x3 := none) (x4 := none) h (b_odd2 ho h S)
  generalize oD o = d1 at s1 st ⊢
  have lp : forL (.nm 2) m__law_right_0 [d1, d2] [(some (Slot.val (d1))), (some (Slot.val (d2))), none, none, none] S = .ok (.ret (.val (.bl true))) [(some (Slot.val (d1))), (some (Slot.val (d2))), (some (Slot.val (d2))), none, none] S := by
    rw [forL_step rfl s1, forL]
    simp only [Tg.asg, List.set_cons_succ, List.set_cons_zero, st, bind_ok]
  simp only [F__law_right, m__law_right, sFor, Int.ofNat_lt, Int.ofNat_le, bind_ok, bind_exc, bind_stuck, sizeLine_eq, fMod_i, fFdiv_i, fMul_i, fMul_i1, fMul_i2, fm0, fm1, fAdd_i, fSub_i, fPow_i, fAdd_l, fAdd_t, fAdd_s, fLt_i, fLe_i, fGt_i, fGe_i, evO, resW, evR, bPrim, bC, bVar, tTru, tBool, tNotB, tAndB, tOrB, bAnd, bOr, bNot, bIf, wIf, evX, bTup, wLst, wPrim, wVal, eFrz, wCall, sOk, sRet, sSet, sIf, sSeq, sDrop, sPar, evW, setAll, Tg.asg, Tg.asgs, mMut, sPutL, bGet, sPutD, wDisp, ePub, bIxL, sPutS, mChk, mInt, D.isStr, D.isInt, D.tru, fLen_l, fLen_t, List.length_map, iVal, itemsD, iRange, plainS, wipeE, backE, wComp, wCompB, List.all_cons, List.all_nil, Slot.isVal, Bool.and_true, Bool.true_and, Bool.and_self, fsem, env0, fill, wMove, Slot.frz, List.getElem?_cons_zero, List.getElem?_cons_succ, List.set_cons_zero, List.set_cons_succ, List.map_cons, List.map_nil, List.cons_append, List.nil_append, List.reduceReplicate, Option.getD_some, List.length_cons, List.length_nil, List.getD_cons_zero, List.getD_cons_succ, Nat.reduceAdd, Nat.reduceSub, Option.map_some, if_true, if_false, ite_true, ite_false, Bool.false_eq_true, reduceIte, Nat.reduceLeDiff, Nat.reduceEqDiff, Int.reduceEq, Int.reduceNe, Int.reduceLT, Int.reduceLE, Int.reduceNeg, Int.reducePow, ne_eq, not_false_eq_true, decide_true, decide_false, true_and, and_true, true_or, or_true, and_self, Bool.not_true, Bool.not_false, reduceCtorEq, lp]
theorem due_pl {lo hi : Option Str} (hlo : OkO lo) (hhi : OkO hi) {u : List Nat} (h : dueS lo hi = some u) : Pl (sd u) ∧ (∀ a, lo = some a → strLt a (sd u) = true) ∧ (∀ b, hi = some b → strLt (sd u) b = true) := by
  obtain ⟨j, h1, h2, h3, rfl⟩ := due_is h
  obtain ⟨lt, q⟩ := (okAt_iff (show 0 < j by omega) (hi_ad hhi)).mp h3
  have ln := dg_len (show 0 < j by omega) lt
  obtain ⟨f1, f2⟩ := frst_pos (lo0 lo) j
  refine ⟨⟨by rw [sd_len, ln]; omega, by rw [sd_len, ln]; omega, dg_ad _ _, ?_⟩, fun a ha => ?_, fun b hb => ?_⟩
  · obtain ⟨l, c, e⟩ := ne_empty (w := sd (dg j (frst (lo0 lo) j))) (by rw [sd_len, ln]; omega)
    refine ⟨l, c, e, fun z => ?_⟩
    subst z
    have v := dg_val j (frst (lo0 lo) j)
    rw [cs_sd] at e
    rw [e, dv_snoc] at v
    omega
  · subst ha
    refine decide_eq_true ?_
    have := hlo a rfl
    exact lt_of_pad (l := cs a) (u := dg j (frst (cs a) j)) this.ad (dg_ad _ _) (by rw [show (dg j (frst (cs a) j)).length = j from ln, dg_val]; exact f1)
  · subst hb
    exact decide_eq_true (q _ rfl)
theorem room_s {u : List Nat} (h : Pl (sd u)) : decide (sd u = "no room") = false := decide_eq_false fun e => by
  have a := h.ad
  rw [e] at a
  have := a 110 (by decide +kernel)
  omega
theorem room_r : fEq [.str "no room", .str "no room"] = some (.bl true) := eq_self _
theorem lt_ss (a b : Str) : fLt [.str a, .str b] = some (.bl (strLt a b)) := rfl
theorem right_ok {lo hi : Option Str} (hlo : OkO lo) (hhi : OkO hi) (S : Sto) : F__law_right [oD lo, oD hi] S = .ok (.val (.bl true)) [] S := by
  have s1 := r_ok (d1 := oD lo) (d2 := oD hi) (x3 := none) (x4 := none) (S := S) hlo
  have s2 := r_ok (d1 := oD lo) (d2 := oD hi) (x3 := none) (x4 := none) (S := S) hhi
  have lp : forL (.nm 2) m__law_right_0 [oD lo, oD hi] [(some (Slot.val (oD lo))), (some (Slot.val (oD hi))), none, none, none] S = .ok .next [(some (Slot.val (oD lo))), (some (Slot.val (oD hi))), (some (Slot.val (oD hi))), none, none] S := by
    rw [forL_step rfl s1, forL_step rfl s2]; rfl
  have sa := said_ok hlo hhi S
  have du := due_ok hlo hhi S
  unfold saidT at sa
  unfold dueT at du
  by_cases q : badP lo hi = true
  · rw [if_pos q] at sa
    cases lo with
    | none => cases q
    | some a =>
      cases hi with
      | none => cases q
      | some b =>
        have ge := ge_ss a b
        rw [show (!strLt a b) = true from q] at ge
        have eb := eq_self "bad"
        simp only [oD] at lp sa
        simp only [F__law_right, m__law_right, sFor, Int.ofNat_lt, Int.ofNat_le, bind_ok, bind_exc, bind_stuck, sizeLine_eq, fMod_i, fFdiv_i, fMul_i, fMul_i1, fMul_i2, fm0, fm1, fAdd_i, fSub_i, fPow_i, fAdd_l, fAdd_t, fAdd_s, fLt_i, fLe_i, fGt_i, fGe_i, evO, resW, evR, bPrim, bC, bVar, tTru, tBool, tNotB, tAndB, tOrB, bAnd, bOr, bNot, bIf, wIf, evX, bTup, wLst, wPrim, wVal, eFrz, wCall, sOk, sRet, sSet, sIf, sSeq, sDrop, sPar, evW, setAll, Tg.asg, Tg.asgs, mMut, sPutL, bGet, sPutD, wDisp, ePub, bIxL, sPutS, mChk, mInt, D.isStr, D.isInt, D.tru, fLen_l, fLen_t, List.length_map, iVal, itemsD, iRange, plainS, wipeE, backE, wComp, wCompB, List.all_cons, List.all_nil, Slot.isVal, Bool.and_true, Bool.true_and, Bool.and_self, fsem, env0, fill, wMove, Slot.frz, List.getElem?_cons_zero, List.getElem?_cons_succ, List.set_cons_zero, List.set_cons_succ, List.map_cons, List.map_nil, List.cons_append, List.nil_append, List.reduceReplicate, Option.getD_some, List.length_cons, List.length_nil, List.getD_cons_zero, List.getD_cons_succ, Nat.reduceAdd, Nat.reduceSub, Option.map_some, if_true, if_false, ite_true, ite_false, Bool.false_eq_true, reduceIte, Nat.reduceLeDiff, Nat.reduceEqDiff, Int.reduceEq, Int.reduceNe, Int.reduceLT, Int.reduceLE, Int.reduceNeg, Int.reducePow, ne_eq, not_false_eq_true, decide_true, decide_false, true_and, and_true, true_or, or_true, and_self, Bool.not_true, Bool.not_false, reduceCtorEq, oD, lp, ns, ge, sa, eb]
  · rw [if_neg q] at sa
    have q : badP lo hi = false := by simpa using q
    have ge : ∀ a b, lo = some a → hi = some b → fGe [.str a, .str b] = some (.bl false) := fun a b ha hb => by
      subst ha hb
      rw [ge_ss, show (!strLt a b) = false from q]
    cases z : dueS lo hi with
    | none =>
      rw [z] at sa du
      have nr := ne_self "no room"
      have er := room_r
      cases lo with
      | none =>
        cases hi <;> simp only [oD] at lp sa du <;> simp only [F__law_right, m__law_right, sFor, Int.ofNat_lt, Int.ofNat_le, bind_ok, bind_exc, bind_stuck, sizeLine_eq, fMod_i, fFdiv_i, fMul_i, fMul_i1, fMul_i2, fm0, fm1, fAdd_i, fSub_i, fPow_i, fAdd_l, fAdd_t, fAdd_s, fLt_i, fLe_i, fGt_i, fGe_i, evO, resW, evR, bPrim, bC, bVar, tTru, tBool, tNotB, tAndB, tOrB, bAnd, bOr, bNot, bIf, wIf, evX, bTup, wLst, wPrim, wVal, eFrz, wCall, sOk, sRet, sSet, sIf, sSeq, sDrop, sPar, evW, setAll, Tg.asg, Tg.asgs, mMut, sPutL, bGet, sPutD, wDisp, ePub, bIxL, sPutS, mChk, mInt, D.isStr, D.isInt, D.tru, fLen_l, fLen_t, List.length_map, iVal, itemsD, iRange, plainS, wipeE, backE, wComp, wCompB, List.all_cons, List.all_nil, Slot.isVal, Bool.and_true, Bool.true_and, Bool.and_self, fsem, env0, fill, wMove, Slot.frz, List.getElem?_cons_zero, List.getElem?_cons_succ, List.set_cons_zero, List.set_cons_succ, List.map_cons, List.map_nil, List.cons_append, List.nil_append, List.reduceReplicate, Option.getD_some, List.length_cons, List.length_nil, List.getD_cons_zero, List.getD_cons_succ, Nat.reduceAdd, Nat.reduceSub, Option.map_some, if_true, if_false, ite_true, ite_false, Bool.false_eq_true, reduceIte, Nat.reduceLeDiff, Nat.reduceEqDiff, Int.reduceEq, Int.reduceNe, Int.reduceLT, Int.reduceLE, Int.reduceNeg, Int.reducePow, ne_eq, not_false_eq_true, decide_true, decide_false, true_and, and_true, true_or, or_true, and_self, Bool.not_true, Bool.not_false, reduceCtorEq, oD, lp, nn, du, sa, nr, er]
      | some a =>
        cases hi with
        | none => simp only [oD] at lp sa du; simp only [F__law_right, m__law_right, sFor, Int.ofNat_lt, Int.ofNat_le, bind_ok, bind_exc, bind_stuck, sizeLine_eq, fMod_i, fFdiv_i, fMul_i, fMul_i1, fMul_i2, fm0, fm1, fAdd_i, fSub_i, fPow_i, fAdd_l, fAdd_t, fAdd_s, fLt_i, fLe_i, fGt_i, fGe_i, evO, resW, evR, bPrim, bC, bVar, tTru, tBool, tNotB, tAndB, tOrB, bAnd, bOr, bNot, bIf, wIf, evX, bTup, wLst, wPrim, wVal, eFrz, wCall, sOk, sRet, sSet, sIf, sSeq, sDrop, sPar, evW, setAll, Tg.asg, Tg.asgs, mMut, sPutL, bGet, sPutD, wDisp, ePub, bIxL, sPutS, mChk, mInt, D.isStr, D.isInt, D.tru, fLen_l, fLen_t, List.length_map, iVal, itemsD, iRange, plainS, wipeE, backE, wComp, wCompB, List.all_cons, List.all_nil, Slot.isVal, Bool.and_true, Bool.true_and, Bool.and_self, fsem, env0, fill, wMove, Slot.frz, List.getElem?_cons_zero, List.getElem?_cons_succ, List.set_cons_zero, List.set_cons_succ, List.map_cons, List.map_nil, List.cons_append, List.nil_append, List.reduceReplicate, Option.getD_some, List.length_cons, List.length_nil, List.getD_cons_zero, List.getD_cons_succ, Nat.reduceAdd, Nat.reduceSub, Option.map_some, if_true, if_false, ite_true, ite_false, Bool.false_eq_true, reduceIte, Nat.reduceLeDiff, Nat.reduceEqDiff, Int.reduceEq, Int.reduceNe, Int.reduceLT, Int.reduceLE, Int.reduceNeg, Int.reducePow, ne_eq, not_false_eq_true, decide_true, decide_false, true_and, and_true, true_or, or_true, and_self, Bool.not_true, Bool.not_false, reduceCtorEq, oD, lp, nn, ns, du, sa, nr, er]
        | some b =>
          have ge := ge a b rfl rfl
          simp only [oD] at lp sa du; simp only [F__law_right, m__law_right, sFor, Int.ofNat_lt, Int.ofNat_le, bind_ok, bind_exc, bind_stuck, sizeLine_eq, fMod_i, fFdiv_i, fMul_i, fMul_i1, fMul_i2, fm0, fm1, fAdd_i, fSub_i, fPow_i, fAdd_l, fAdd_t, fAdd_s, fLt_i, fLe_i, fGt_i, fGe_i, evO, resW, evR, bPrim, bC, bVar, tTru, tBool, tNotB, tAndB, tOrB, bAnd, bOr, bNot, bIf, wIf, evX, bTup, wLst, wPrim, wVal, eFrz, wCall, sOk, sRet, sSet, sIf, sSeq, sDrop, sPar, evW, setAll, Tg.asg, Tg.asgs, mMut, sPutL, bGet, sPutD, wDisp, ePub, bIxL, sPutS, mChk, mInt, D.isStr, D.isInt, D.tru, fLen_l, fLen_t, List.length_map, iVal, itemsD, iRange, plainS, wipeE, backE, wComp, wCompB, List.all_cons, List.all_nil, Slot.isVal, Bool.and_true, Bool.true_and, Bool.and_self, fsem, env0, fill, wMove, Slot.frz, List.getElem?_cons_zero, List.getElem?_cons_succ, List.set_cons_zero, List.set_cons_succ, List.map_cons, List.map_nil, List.cons_append, List.nil_append, List.reduceReplicate, Option.getD_some, List.length_cons, List.length_nil, List.getD_cons_zero, List.getD_cons_succ, Nat.reduceAdd, Nat.reduceSub, Option.map_some, if_true, if_false, ite_true, ite_false, Bool.false_eq_true, reduceIte, Nat.reduceLeDiff, Nat.reduceEqDiff, Int.reduceEq, Int.reduceNe, Int.reduceLT, Int.reduceLE, Int.reduceNeg, Int.reducePow, ne_eq, not_false_eq_true, decide_true, decide_false, true_and, and_true, true_or, or_true, and_self, Bool.not_true, Bool.not_false, reduceCtorEq, oD, lp, ns, ge, du, sa, nr, er]
    | some u =>
      rw [z] at sa du
      obtain ⟨pl, k1, k2⟩ := due_pl hlo hhi z
      have pu := pl.law S
      have nr := ne_self (sd u)
      have er : fEq [.str (sd u), .str "no room"] = some (.bl false) := by rw [eq_str, room_s pl]
      cases lo with
      | none =>
        cases hi with
        | none => simp only [oD] at lp sa du; simp only [F__law_right, m__law_right, sFor, Int.ofNat_lt, Int.ofNat_le, bind_ok, bind_exc, bind_stuck, sizeLine_eq, fMod_i, fFdiv_i, fMul_i, fMul_i1, fMul_i2, fm0, fm1, fAdd_i, fSub_i, fPow_i, fAdd_l, fAdd_t, fAdd_s, fLt_i, fLe_i, fGt_i, fGe_i, evO, resW, evR, bPrim, bC, bVar, tTru, tBool, tNotB, tAndB, tOrB, bAnd, bOr, bNot, bIf, wIf, evX, bTup, wLst, wPrim, wVal, eFrz, wCall, sOk, sRet, sSet, sIf, sSeq, sDrop, sPar, evW, setAll, Tg.asg, Tg.asgs, mMut, sPutL, bGet, sPutD, wDisp, ePub, bIxL, sPutS, mChk, mInt, D.isStr, D.isInt, D.tru, fLen_l, fLen_t, List.length_map, iVal, itemsD, iRange, plainS, wipeE, backE, wComp, wCompB, List.all_cons, List.all_nil, Slot.isVal, Bool.and_true, Bool.true_and, Bool.and_self, fsem, env0, fill, wMove, Slot.frz, List.getElem?_cons_zero, List.getElem?_cons_succ, List.set_cons_zero, List.set_cons_succ, List.map_cons, List.map_nil, List.cons_append, List.nil_append, List.reduceReplicate, Option.getD_some, List.length_cons, List.length_nil, List.getD_cons_zero, List.getD_cons_succ, Nat.reduceAdd, Nat.reduceSub, Option.map_some, if_true, if_false, ite_true, ite_false, Bool.false_eq_true, reduceIte, Nat.reduceLeDiff, Nat.reduceEqDiff, Int.reduceEq, Int.reduceNe, Int.reduceLT, Int.reduceLE, Int.reduceNeg, Int.reducePow, ne_eq, not_false_eq_true, decide_true, decide_false, true_and, and_true, true_or, or_true, and_self, Bool.not_true, Bool.not_false, reduceCtorEq, oD, lp, nn, du, sa, nr, er, isn, pu]
        | some b =>
          have lb := lt_ss (sd u) b
          rw [k2 b rfl] at lb
          simp only [oD] at lp sa du; simp only [F__law_right, m__law_right, sFor, Int.ofNat_lt, Int.ofNat_le, bind_ok, bind_exc, bind_stuck, sizeLine_eq, fMod_i, fFdiv_i, fMul_i, fMul_i1, fMul_i2, fm0, fm1, fAdd_i, fSub_i, fPow_i, fAdd_l, fAdd_t, fAdd_s, fLt_i, fLe_i, fGt_i, fGe_i, evO, resW, evR, bPrim, bC, bVar, tTru, tBool, tNotB, tAndB, tOrB, bAnd, bOr, bNot, bIf, wIf, evX, bTup, wLst, wPrim, wVal, eFrz, wCall, sOk, sRet, sSet, sIf, sSeq, sDrop, sPar, evW, setAll, Tg.asg, Tg.asgs, mMut, sPutL, bGet, sPutD, wDisp, ePub, bIxL, sPutS, mChk, mInt, D.isStr, D.isInt, D.tru, fLen_l, fLen_t, List.length_map, iVal, itemsD, iRange, plainS, wipeE, backE, wComp, wCompB, List.all_cons, List.all_nil, Slot.isVal, Bool.and_true, Bool.true_and, Bool.and_self, fsem, env0, fill, wMove, Slot.frz, List.getElem?_cons_zero, List.getElem?_cons_succ, List.set_cons_zero, List.set_cons_succ, List.map_cons, List.map_nil, List.cons_append, List.nil_append, List.reduceReplicate, Option.getD_some, List.length_cons, List.length_nil, List.getD_cons_zero, List.getD_cons_succ, Nat.reduceAdd, Nat.reduceSub, Option.map_some, if_true, if_false, ite_true, ite_false, Bool.false_eq_true, reduceIte, Nat.reduceLeDiff, Nat.reduceEqDiff, Int.reduceEq, Int.reduceNe, Int.reduceLT, Int.reduceLE, Int.reduceNeg, Int.reducePow, ne_eq, not_false_eq_true, decide_true, decide_false, true_and, and_true, true_or, or_true, and_self, Bool.not_true, Bool.not_false, reduceCtorEq, oD, lp, nn, du, sa, nr, er, isn, iss, lb, pu]
      | some a =>
        have la := lt_ss a (sd u)
        rw [k1 a rfl] at la
        cases hi with
        | none => simp only [oD] at lp sa du; simp only [F__law_right, m__law_right, sFor, Int.ofNat_lt, Int.ofNat_le, bind_ok, bind_exc, bind_stuck, sizeLine_eq, fMod_i, fFdiv_i, fMul_i, fMul_i1, fMul_i2, fm0, fm1, fAdd_i, fSub_i, fPow_i, fAdd_l, fAdd_t, fAdd_s, fLt_i, fLe_i, fGt_i, fGe_i, evO, resW, evR, bPrim, bC, bVar, tTru, tBool, tNotB, tAndB, tOrB, bAnd, bOr, bNot, bIf, wIf, evX, bTup, wLst, wPrim, wVal, eFrz, wCall, sOk, sRet, sSet, sIf, sSeq, sDrop, sPar, evW, setAll, Tg.asg, Tg.asgs, mMut, sPutL, bGet, sPutD, wDisp, ePub, bIxL, sPutS, mChk, mInt, D.isStr, D.isInt, D.tru, fLen_l, fLen_t, List.length_map, iVal, itemsD, iRange, plainS, wipeE, backE, wComp, wCompB, List.all_cons, List.all_nil, Slot.isVal, Bool.and_true, Bool.true_and, Bool.and_self, fsem, env0, fill, wMove, Slot.frz, List.getElem?_cons_zero, List.getElem?_cons_succ, List.set_cons_zero, List.set_cons_succ, List.map_cons, List.map_nil, List.cons_append, List.nil_append, List.reduceReplicate, Option.getD_some, List.length_cons, List.length_nil, List.getD_cons_zero, List.getD_cons_succ, Nat.reduceAdd, Nat.reduceSub, Option.map_some, if_true, if_false, ite_true, ite_false, Bool.false_eq_true, reduceIte, Nat.reduceLeDiff, Nat.reduceEqDiff, Int.reduceEq, Int.reduceNe, Int.reduceLT, Int.reduceLE, Int.reduceNeg, Int.reducePow, ne_eq, not_false_eq_true, decide_true, decide_false, true_and, and_true, true_or, or_true, and_self, Bool.not_true, Bool.not_false, reduceCtorEq, oD, lp, nn, ns, du, sa, nr, er, isn, iss, la, pu]
        | some b =>
          have ge := ge a b rfl rfl
          have lb := lt_ss (sd u) b
          rw [k2 b rfl] at lb
          simp only [oD] at lp sa du; simp only [F__law_right, m__law_right, sFor, Int.ofNat_lt, Int.ofNat_le, bind_ok, bind_exc, bind_stuck, sizeLine_eq, fMod_i, fFdiv_i, fMul_i, fMul_i1, fMul_i2, fm0, fm1, fAdd_i, fSub_i, fPow_i, fAdd_l, fAdd_t, fAdd_s, fLt_i, fLe_i, fGt_i, fGe_i, evO, resW, evR, bPrim, bC, bVar, tTru, tBool, tNotB, tAndB, tOrB, bAnd, bOr, bNot, bIf, wIf, evX, bTup, wLst, wPrim, wVal, eFrz, wCall, sOk, sRet, sSet, sIf, sSeq, sDrop, sPar, evW, setAll, Tg.asg, Tg.asgs, mMut, sPutL, bGet, sPutD, wDisp, ePub, bIxL, sPutS, mChk, mInt, D.isStr, D.isInt, D.tru, fLen_l, fLen_t, List.length_map, iVal, itemsD, iRange, plainS, wipeE, backE, wComp, wCompB, List.all_cons, List.all_nil, Slot.isVal, Bool.and_true, Bool.true_and, Bool.and_self, fsem, env0, fill, wMove, Slot.frz, List.getElem?_cons_zero, List.getElem?_cons_succ, List.set_cons_zero, List.set_cons_succ, List.map_cons, List.map_nil, List.cons_append, List.nil_append, List.reduceReplicate, Option.getD_some, List.length_cons, List.length_nil, List.getD_cons_zero, List.getD_cons_succ, Nat.reduceAdd, Nat.reduceSub, Option.map_some, if_true, if_false, ite_true, ite_false, Bool.false_eq_true, reduceIte, Nat.reduceLeDiff, Nat.reduceEqDiff, Int.reduceEq, Int.reduceNe, Int.reduceLT, Int.reduceLE, Int.reduceNeg, Int.reducePow, ne_eq, not_false_eq_true, decide_true, decide_false, true_and, and_true, true_or, or_true, and_self, Bool.not_true, Bool.not_false, reduceCtorEq, oD, lp, ns, ge, du, sa, nr, er, isn, iss, la, lb, pu]

/-! ### places that are drawn -/
theorem pick_s {x : Str} {r : Int} (h0 : 0 ≤ r) (h1 : r < x.length) (hl : x.length ≤ 1000) : ∃ c, c ∈ cs x ∧ fIx [.str x, .int r] = some (chD c) := by
  obtain ⟨k, rfl⟩ := Int.eq_ofNat_of_zero_le h0
  have hk : k < (cs x).length := by rw [cs_len]; omega
  refine ⟨(cs x)[k], List.getElem_mem hk, ?_⟩
  show (if x.length ≤ sizeLine then (atI (cs x) ((k : Nat) : Int)).map chD else none) = _
  rw [if_pos (by rw [sizeLine_eq]; omega), atI_n, List.getElem?_eq_getElem hk]
  rfl
theorem strs_len {parts : List Str} {n : Nat} (h : ∀ p ∈ parts, p.length ≤ n) : (parts.map (·.length)).sum ≤ parts.length * n := by
  induction parts with
  | nil => simp
  | cons p ps ih =>
    rw [List.map_cons, List.sum_cons, List.length_cons, Nat.add_mul, Nat.one_mul]
    have := ih fun q hq => h q (List.mem_cons_of_mem _ hq)
    have := h p List.mem_cons_self
    omega
theorem strsD_map (ps : List Str) : strsD (ps.map .str) = some ps := by
  induction ps with
  | nil => rfl
  | cons p ps ih => simp [strsD, ih]
theorem join_ok {sep : Str} {parts : List Str} (h : (parts.map (·.length)).sum + parts.length * sep.length ≤ 16777216) : fJoin [.str sep, .lst (parts.map .str)] = some (.str (Txt.join sep parts)) := by
  show joinD sep (parts.map .str) = _
  unfold joinD
  rw [strsD_map]
  exact if_pos h
theorem strs_of : ∀ (ys : List D) (P : Str → Prop), (∀ (j : Nat) (y : D), ys[j]? = some y → ∃ x, P x ∧ y = .str x) → ∃ xs : List Str, ys = xs.map .str ∧ ∀ x ∈ xs, P x
  | [], _, _ => ⟨[], rfl, fun p hp => by cases hp⟩
  | y :: ys, P, h => by
    obtain ⟨p, h1, rfl⟩ := h 0 y rfl
    obtain ⟨ps, rfl, h2⟩ := strs_of ys P fun j z hz => h (j + 1) z (by simpa using hz)
    exact ⟨p :: ps, rfl, fun q hq => by
      rcases List.mem_cons.mp hq with e | e
      · subst e; exact h1
      · exact h2 q e⟩
theorem pl_mk {a : List Nat} {c : Nat} (ha : AllDigits a) (hc : 49 ≤ c ∧ c ≤ 57) (hl : a.length ≤ 7) : Pl (sd (a ++ [c])) := by
  refine ⟨by rw [sd_len]; simp, by rw [sd_len]; simp; omega, ad_app ha fun d hd => ?_, a, c, rfl, by omega⟩
  rw [List.mem_singleton.mp hd]; omega
theorem join_dig {ps : List Str} (h : ∀ p ∈ ps, ∃ c, 48 ≤ c ∧ c ≤ 57 ∧ p = ⟨#[c]⟩) : ∃ a, AllDigits a ∧ a.length = ps.length ∧ Txt.join "" ps = sd a := by
  have e : cs (Txt.join "" ps) = (ps.map cs).flatten := join_cps ps
  refine ⟨(ps.map cs).flatten, ?_, ?_, by rw [← e, sd_cs]⟩
  · intro c hc
    obtain ⟨l, hl, hc⟩ := List.mem_flatten.mp hc
    obtain ⟨p, hp, rfl⟩ := List.mem_map.mp hl
    obtain ⟨d, d1, d2, rfl⟩ := h p hp
    have : c = d := by simpa using hc
    omega
  · induction ps with
    | nil => rfl
    | cons p ps ih =>
      obtain ⟨d, _, _, rfl⟩ := h p List.mem_cons_self
      have := ih (fun q hq => h q (List.mem_cons_of_mem _ hq)) (join_cps ps)
      simp only [List.map_cons, List.flatten_cons, List.length_append, List.length_cons, this]
      simp; omega
theorem figs_len : figs.length = 10 := by decide +kernel
theorem figures_ok {t : Nat} {S : Sto} {n : Nat} (h : Dr t S) (ht : t < 100000000) (hn : n ≤ 8) : ∃ a S', AllDigits a ∧ a.length = n ∧ Dr (t + 8) S' ∧ F__law_figures [.ref 0, .int (n : Nat)] S = .ok (.val (.str (sd a))) [] S' := by
  have rg := range1_ok n (by omega)
  obtain ⟨ys, e', S3, q1, ⟨q2, q3⟩, q4, q5⟩ := compL_run (vs := [2]) (t := .nm 2) (m := m__law_figures_0) (fun i e S' => e = [(some (Slot.val (.ref 0))), (some (Slot.val (.int (n : Nat)))), none] ∧ Dr (t + i) S') (fun _ y => ∃ p, (∃ c, 48 ≤ c ∧ c ≤ 57 ∧ p = (⟨#[c]⟩ : Str)) ∧ y = .str p) (rangeD 0 n 1) 0 [] [(some (Slot.val (.ref 0))), (some (Slot.val (.int (n : Nat)))), none] S (by rw [rangeD_length]; simp; omega) ⟨rfl, h⟩ fun j d e S' hd hI => by
    obtain ⟨rfl, hD⟩ := hI
    have hj := (rangeD_get hd).1
    obtain ⟨r, S4, r0, r1, d4, e4⟩ := next_ok (many := 10) hD (by omega) (by omega) (by omega)
    obtain ⟨c, hc, f⟩ := pick_s (x := figs) r0 (by rw [figs_len]; exact r1) (by rw [figs_len]; omega)
    have f : fIx [.str "0123456789", .int r] = some (chD c) := f
    refine ⟨_, chD c, [(some (Slot.val (.ref 0))), (some (Slot.val (.int (n : Nat)))), (some (Slot.val (d)))], S4, rfl, ?_, ⟨rfl, d4⟩, _, ⟨c, (in_figs hc).1, (in_figs hc).2, rfl⟩, rfl⟩
    simp only [m__law_figures_0, Int.ofNat_lt, Int.ofNat_le, bind_ok, bind_exc, bind_stuck, sizeLine_eq, fMod_i, fFdiv_i, fMul_i, fMul_i1, fMul_i2, fm0, fm1, fAdd_i, fSub_i, fPow_i, fAdd_l, fAdd_t, fAdd_s, fLt_i, fLe_i, fGt_i, fGe_i, evO, resW, evR, bPrim, bC, bVar, tTru, tBool, tNotB, tAndB, tOrB, bAnd, bOr, bNot, bIf, wIf, evX, bTup, wLst, wPrim, wVal, eFrz, wCall, sOk, sRet, sSet, sIf, sSeq, sDrop, sPar, evW, setAll, Tg.asg, Tg.asgs, mMut, sPutL, bGet, sPutD, wDisp, ePub, bIxL, sPutS, mChk, mInt, D.isStr, D.isInt, D.tru, fLen_l, fLen_t, List.length_map, iVal, itemsD, iRange, plainS, wipeE, backE, wComp, wCompB, List.all_cons, List.all_nil, Slot.isVal, Bool.and_true, Bool.true_and, Bool.and_self, fsem, env0, fill, wMove, Slot.frz, List.getElem?_cons_zero, List.getElem?_cons_succ, List.set_cons_zero, List.set_cons_succ, List.map_cons, List.map_nil, List.cons_append, List.nil_append, List.reduceReplicate, Option.getD_some, List.length_cons, List.length_nil, List.getD_cons_zero, List.getD_cons_succ, Nat.reduceAdd, Nat.reduceSub, Option.map_some, if_true, if_false, ite_true, ite_false, Bool.false_eq_true, reduceIte, Nat.reduceLeDiff, Nat.reduceEqDiff, Int.reduceEq, Int.reduceNe, Int.reduceLT, Int.reduceLE, Int.reduceNeg, Int.reducePow, ne_eq, not_false_eq_true, decide_true, decide_false, true_and, and_true, true_or, or_true, and_self, Bool.not_true, Bool.not_false, reduceCtorEq, e4, f]
  subst q2
  obtain ⟨ps, rfl, hp⟩ := strs_of ys _ q5
  rw [List.length_map, rangeD_length] at q4
  obtain ⟨a, a1, a2, a3⟩ := join_dig hp
  have jn := join_ok (sep := "") (parts := ps) (by
    have := strs_len (n := 1) fun p hp' => by
      obtain ⟨c, _, _, rfl⟩ := hp p hp'
      exact Nat.le_refl 1
    rw [show ("" : Str).length = 0 by decide +kernel]; omega)
  rw [a3] at jn
  refine ⟨a, S3, a1, by rw [a2]; simpa using q4, q3.mono (by rw [rangeD_length]; omega), ?_⟩
  simp only [F__law_figures, m__law_figures, Int.ofNat_lt, Int.ofNat_le, bind_ok, bind_exc, bind_stuck, sizeLine_eq, fMod_i, fFdiv_i, fMul_i, fMul_i1, fMul_i2, fm0, fm1, fAdd_i, fSub_i, fPow_i, fAdd_l, fAdd_t, fAdd_s, fLt_i, fLe_i, fGt_i, fGe_i, evO, resW, evR, bPrim, bC, bVar, tTru, tBool, tNotB, tAndB, tOrB, bAnd, bOr, bNot, bIf, wIf, evX, bTup, wLst, wPrim, wVal, eFrz, wCall, sOk, sRet, sSet, sIf, sSeq, sDrop, sPar, evW, setAll, Tg.asg, Tg.asgs, mMut, sPutL, bGet, sPutD, wDisp, ePub, bIxL, sPutS, mChk, mInt, D.isStr, D.isInt, D.tru, fLen_l, fLen_t, List.length_map, iVal, itemsD, iRange, plainS, wipeE, backE, wComp, wCompB, List.all_cons, List.all_nil, Slot.isVal, Bool.and_true, Bool.true_and, Bool.and_self, fsem, env0, fill, wMove, Slot.frz, List.getElem?_cons_zero, List.getElem?_cons_succ, List.set_cons_zero, List.set_cons_succ, List.map_cons, List.map_nil, List.cons_append, List.nil_append, List.reduceReplicate, Option.getD_some, List.length_cons, List.length_nil, List.getD_cons_zero, List.getD_cons_succ, Nat.reduceAdd, Nat.reduceSub, Option.map_some, if_true, if_false, ite_true, ite_false, Bool.false_eq_true, reduceIte, Nat.reduceLeDiff, Nat.reduceEqDiff, Int.reduceEq, Int.reduceNe, Int.reduceLT, Int.reduceLE, Int.reduceNeg, Int.reducePow, ne_eq, not_false_eq_true, decide_true, decide_false, true_and, and_true, true_or, or_true, and_self, Bool.not_true, Bool.not_false, reduceCtorEq, rg]
  rw [q1]
  simp only [Int.ofNat_lt, Int.ofNat_le, bind_ok, bind_exc, bind_stuck, sizeLine_eq, fMod_i, fFdiv_i, fMul_i, fMul_i1, fMul_i2, fm0, fm1, fAdd_i, fSub_i, fPow_i, fAdd_l, fAdd_t, fAdd_s, fLt_i, fLe_i, fGt_i, fGe_i, evO, resW, evR, bPrim, bC, bVar, tTru, tBool, tNotB, tAndB, tOrB, bAnd, bOr, bNot, bIf, wIf, evX, bTup, wLst, wPrim, wVal, eFrz, wCall, sOk, sRet, sSet, sIf, sSeq, sDrop, sPar, evW, setAll, Tg.asg, Tg.asgs, mMut, sPutL, bGet, sPutD, wDisp, ePub, bIxL, sPutS, mChk, mInt, D.isStr, D.isInt, D.tru, fLen_l, fLen_t, List.length_map, iVal, itemsD, iRange, plainS, wipeE, backE, wComp, wCompB, List.all_cons, List.all_nil, Slot.isVal, Bool.and_true, Bool.true_and, Bool.and_self, fsem, env0, fill, wMove, Slot.frz, List.getElem?_cons_zero, List.getElem?_cons_succ, List.set_cons_zero, List.set_cons_succ, List.map_cons, List.map_nil, List.cons_append, List.nil_append, List.reduceReplicate, Option.getD_some, List.length_cons, List.length_nil, List.getD_cons_zero, List.getD_cons_succ, Nat.reduceAdd, Nat.reduceSub, Option.map_some, if_true, if_false, ite_true, ite_false, Bool.false_eq_true, reduceIte, Nat.reduceLeDiff, Nat.reduceEqDiff, Int.reduceEq, Int.reduceNe, Int.reduceLT, Int.reduceLE, Int.reduceNeg, Int.reducePow, ne_eq, not_false_eq_true, decide_true, decide_false, true_and, and_true, true_or, or_true, and_self, Bool.not_true, Bool.not_false, reduceCtorEq, jn]
theorem nine_len : ("123456789" : Str).length = 9 := by decide +kernel
theorem nine_cs : cs "123456789" = [49, 50, 51, 52, 53, 54, 55, 56, 57] := by decide +kernel
theorem in_nine {c : Nat} (h : c ∈ cs "123456789") : 49 ≤ c ∧ c ≤ 57 := by
  rw [nine_cs] at h
  simp at h
  omega
theorem one_ch : ("1" : Str) = ⟨#[49]⟩ := by decide +kernel
theorem law_place_ok {t : Nat} {S : Sto} (h : Dr t S) (ht : t < 90000000) : ∃ x S', Pl x ∧ Dr (t + 13) S' ∧ F__law_place [.ref 0] S = .ok (.val (.str x)) [] S' := by
  obtain ⟨a0, S1, a1, a2, d1, e1⟩ := next_ok (many := 8) h (by omega) (by omega) (by omega)
  obtain ⟨m, rfl⟩ := Int.eq_ofNat_of_zero_le a1
  obtain ⟨k0, S2, k1, k2, d2, e2⟩ := next_ok (many := 5) d1 (by omega) (by omega) (by omega)
  obtain ⟨z, z1, z2, ez⟩ : ∃ z : Nat, 1 ≤ z ∧ z ≤ 8 ∧ fIx [.lst [.int 1, .int 2, .int 7, .int 8, .int (1 + (m : Nat))], .int k0] = some (.int (z : Nat)) := by
    obtain ⟨k, rfl⟩ := Int.eq_ofNat_of_zero_le k1
    have : k = 0 ∨ k = 1 ∨ k = 2 ∨ k = 3 ∨ k = 4 := by omega
    rcases this with rfl | rfl | rfl | rfl | rfl
    · exact ⟨1, by omega, by omega, rfl⟩
    · exact ⟨2, by omega, by omega, rfl⟩
    · exact ⟨7, by omega, by omega, rfl⟩
    · exact ⟨8, by omega, by omega, rfl⟩
    · refine ⟨1 + m, by omega, by omega, ?_⟩
      show some (D.int (1 + (m : Nat))) = _
      congr 2
  obtain ⟨r, S3, r0, r1, d3, e3⟩ := next_ok (many := 9) d2 (by omega) (by omega) (by omega)
  obtain ⟨c, hc, f⟩ := pick_s (x := "123456789") r0 (by rw [nine_len]; exact r1) (by rw [nine_len]; omega)
  obtain ⟨q0, S4, q1, q2, d4, e4⟩ := next_ok (many := 3) d3 (by omega) (by omega) (by omega)
  obtain ⟨y, y1, y2, ey⟩ : ∃ y : Nat, 49 ≤ y ∧ y ≤ 57 ∧ fIx [.lst [.str "1", .str "9", chD c], .int q0] = some (.str (sd [y])) := by
    obtain ⟨k, rfl⟩ := Int.eq_ofNat_of_zero_le q1
    have : k = 0 ∨ k = 1 ∨ k = 2 := by omega
    rcases this with rfl | rfl | rfl
    · exact ⟨49, by omega, by omega, by rw [one_ch]; rfl⟩
    · exact ⟨57, by omega, by omega, by rw [nine_s]; rfl⟩
    · exact ⟨c, (in_nine hc).1, (in_nine hc).2, rfl⟩
  have sb : ((z : Nat) : Int) - 1 = ((z - 1 : Nat) : Int) := by omega
  obtain ⟨a, S5, b1, b2, d5, e5⟩ := figures_ok (n := z - 1) d4 (by omega) (by omega)
  have m0 := mul_sd 48 (z - 1) (by omega)
  have m9 := mul_sd 57 (z - 1) (by omega)
  rw [← zero_s] at m0
  rw [← nine_s] at m9
  obtain ⟨w0, S6, w1, w2, d6, e6⟩ := next_ok (many := 3) d5 (by omega) (by omega) (by omega)
  obtain ⟨p, p1, p2, ep⟩ : ∃ p, AllDigits p ∧ p.length = z - 1 ∧ fIx [.lst [.str (sd a), .str (sd (List.replicate (z - 1) 48)), .str (sd (List.replicate (z - 1) 57))], .int w0] = some (.str (sd p)) := by
    obtain ⟨k, rfl⟩ := Int.eq_ofNat_of_zero_le w1
    have : k = 0 ∨ k = 1 ∨ k = 2 := by omega
    rcases this with rfl | rfl | rfl
    · exact ⟨a, b1, b2, rfl⟩
    · exact ⟨_, ad_zeros _, List.length_replicate, rfl⟩
    · exact ⟨_, ad_nine _, List.length_replicate, rfl⟩
  have ad := add_sd (a := p) (b := [y]) (by simp; omega)
  refine ⟨sd (p ++ [y]), S6, pl_mk p1 ⟨y1, y2⟩ (by omega), d6.mono (by omega), ?_⟩
  simp only [F__law_place, m__law_place, Int.ofNat_lt, Int.ofNat_le, bind_ok, bind_exc, bind_stuck, sizeLine_eq, fMod_i, fFdiv_i, fMul_i, fMul_i1, fMul_i2, fm0, fm1, fAdd_i, fSub_i, fPow_i, fAdd_l, fAdd_t, fAdd_s, fLt_i, fLe_i, fGt_i, fGe_i, evO, resW, evR, bPrim, bC, bVar, tTru, tBool, tNotB, tAndB, tOrB, bAnd, bOr, bNot, bIf, wIf, evX, bTup, wLst, wPrim, wVal, eFrz, wCall, sOk, sRet, sSet, sIf, sSeq, sDrop, sPar, evW, setAll, Tg.asg, Tg.asgs, mMut, sPutL, bGet, sPutD, wDisp, ePub, bIxL, sPutS, mChk, mInt, D.isStr, D.isInt, D.tru, fLen_l, fLen_t, List.length_map, iVal, itemsD, iRange, plainS, wipeE, backE, wComp, wCompB, List.all_cons, List.all_nil, Slot.isVal, Bool.and_true, Bool.true_and, Bool.and_self, fsem, env0, fill, wMove, Slot.frz, List.getElem?_cons_zero, List.getElem?_cons_succ, List.set_cons_zero, List.set_cons_succ, List.map_cons, List.map_nil, List.cons_append, List.nil_append, List.reduceReplicate, Option.getD_some, List.length_cons, List.length_nil, List.getD_cons_zero, List.getD_cons_succ, Nat.reduceAdd, Nat.reduceSub, Option.map_some, if_true, if_false, ite_true, ite_false, Bool.false_eq_true, reduceIte, Nat.reduceLeDiff, Nat.reduceEqDiff, Int.reduceEq, Int.reduceNe, Int.reduceLT, Int.reduceLE, Int.reduceNeg, Int.reducePow, ne_eq, not_false_eq_true, decide_true, decide_false, true_and, and_true, true_or, or_true, and_self, Bool.not_true, Bool.not_false, reduceCtorEq, e1, e2, ez, e3, f, e4, ey, sb, e5, m0, m9, e6, ep, ad]
theorem cut_m1 (a : List Nat) (c : Nat) : cutL (a ++ [c]) none (some (-1)) = a := by
  unfold cutL
  have h1 : HT.sIx (a ++ [c]).length 0 none = 0 := rfl
  have h2 : HT.sIx (a ++ [c]).length (a ++ [c]).length (some (-1)) = a.length := by
    show (if (-1 : Int) < 0 then ((-1 : Int) + ((a ++ [c]).length : Int)).toNat else min (-1 : Int).toNat (a ++ [c]).length) = _
    rw [if_pos (by decide), List.length_append, List.length_singleton]
    omega
  rw [h1, h2, List.drop_zero, Nat.sub_zero, List.take_left' rfl]
theorem to_m1 {a : List Nat} {c : Nat} (h : a.length ≤ 1000) : fSl01 [.str (sd (a ++ [c])), .int (-1)] = some (.str (sd a)) := by
  have hl := sd_len (a ++ [c])
  rw [List.length_append, List.length_singleton] at hl
  have : fSl01 [.str (sd (a ++ [c])), .int (-1)] = some (.str (cutS (sd (a ++ [c])) none (some (-1)))) := by
    refine if_pos ?_
    rw [sizeLine_eq, hl]; omega
  rw [this, ← sd_cs (cutS (sd (a ++ [c])) none (some (-1))), cutS_cs, cs_sd, cut_m1]
theorem lt_9 (c : Nat) : fLt [chD c, .str "9"] = some (.bl (decide (c < 57))) := by
  rw [nine_s]
  show some (D.bl (decide ([c] < [57]))) = _
  congr 2
  refine decide_eq_decide.mpr ?_
  rw [List.cons_lt_cons_iff]
  simp [List.not_lt_nil]
theorem nine_ix {c : Nat} (h : 48 ≤ c ∧ c ≤ 56) : fIx [.str "123456789", .int ((c - 48 : Nat) : Int)] = some (chD (c + 1)) := by
  refine ix_n ?_ (by rw [nine_len]; omega)
  rw [nine_cs]
  have : c = 48 ∨ c = 49 ∨ c = 50 ∨ c = 51 ∨ c = 52 ∨ c = 53 ∨ c = 54 ∨ c = 55 ∨ c = 56 := by omega
  rcases this with rfl | rfl | rfl | rfl | rfl | rfl | rfl | rfl | rfl <;> rfl
theorem law_near_ok {t : Nat} {S : Sto} {w : Str} (h : Dr t S) (ht : t < 10000000) (hw : Pl w) : ∃ x S', Pl x ∧ Dr (t + 20) S' ∧ F__law_near [.ref 0, .str w] S = .ok (.val (.str x)) [] S' := by
  obtain ⟨a, ha⟩ : ∃ a, w = sd a := ⟨cs w, rfl⟩
  subst ha
  obtain ⟨l, c, e, hc⟩ := hw.last
  rw [cs_sd] at e
  have l0 := hw.l0
  have l8 := hw.l8
  rw [sd_len] at l0 l8
  have ad := hw.ad
  rw [cs_sd] at ad
  have cd := ad c (by rw [e]; simp)
  obtain ⟨way, S1, w0, w1, d1, e1⟩ := next_ok (many := 5) h (by omega) (by omega) (by omega)
  have ln := len_sd (a := a) (by omega)
  by_cases q0 : way = 0
  · have z0 : fEq [.int way, .int 0] = some (.bl true) := by rw [eq_i, decide_eq_true q0]
    obtain ⟨x, S2, px, d2, e2⟩ := law_place_ok d1 (by omega)
    exact ⟨x, S2, px, d2.mono (by omega), by simp only [F__law_near, m__law_near, Int.ofNat_lt, Int.ofNat_le, bind_ok, bind_exc, bind_stuck, sizeLine_eq, fMod_i, fFdiv_i, fMul_i, fMul_i1, fMul_i2, fm0, fm1, fAdd_i, fSub_i, fPow_i, fAdd_l, fAdd_t, fAdd_s, fLt_i, fLe_i, fGt_i, fGe_i, evO, resW, evR, bPrim, bC, bVar, tTru, tBool, tNotB, tAndB, tOrB, bAnd, bOr, bNot, bIf, wIf, evX, bTup, wLst, wPrim, wVal, eFrz, wCall, sOk, sRet, sSet, sIf, sSeq, sDrop, sPar, evW, setAll, Tg.asg, Tg.asgs, mMut, sPutL, bGet, sPutD, wDisp, ePub, bIxL, sPutS, mChk, mInt, D.isStr, D.isInt, D.tru, fLen_l, fLen_t, List.length_map, iVal, itemsD, iRange, plainS, wipeE, backE, wComp, wCompB, List.all_cons, List.all_nil, Slot.isVal, Bool.and_true, Bool.true_and, Bool.and_self, fsem, env0, fill, wMove, Slot.frz, List.getElem?_cons_zero, List.getElem?_cons_succ, List.set_cons_zero, List.set_cons_succ, List.map_cons, List.map_nil, List.cons_append, List.nil_append, List.reduceReplicate, Option.getD_some, List.length_cons, List.length_nil, List.getD_cons_zero, List.getD_cons_succ, Nat.reduceAdd, Nat.reduceSub, Option.map_some, if_true, if_false, ite_true, ite_false, Bool.false_eq_true, reduceIte, Nat.reduceLeDiff, Nat.reduceEqDiff, Int.reduceEq, Int.reduceNe, Int.reduceLT, Int.reduceLE, Int.reduceNeg, Int.reducePow, ne_eq, not_false_eq_true, decide_true, decide_false, true_and, and_true, true_or, or_true, and_self, Bool.not_true, Bool.not_false, reduceCtorEq, e1, z0, e2]⟩
  have z0 : fEq [.int way, .int 0] = some (.bl false) := by rw [eq_i, decide_eq_false q0]
  have la : fIx [.str (sd a), .int (-1)] = some (chD c) := last_s (w := sd a) (l := l) (c := c) (by rw [cs_sd]; exact e) (n := 100) (by rw [sd_len]; omega) (by omega)
  have ng : negF [.int 1] = some (.int (-1)) := rfl
  have l8e : fLt [.int (a.length : Nat), .int 8] = some (.bl (decide (a.length < 8))) := by
    show some (D.bl (decide ((a.length : Int) < (8 : Int)))) = _
    congr 2
    exact decide_eq_decide.mpr (by omega)
  -- the beginning
  have rest : ∀ (m : Sm), (∀ e S, m e S = (sSeq (sSet 3 (wVal (bPrim fSl01 [.sl 1, mInt (bPrim fAdd [.ex (bC (.int 1)), .ex (eFrz (wCall F__law_next [] ar2 [bVar 0, bPrim fLen [.sl 1]] []))])]))) (sSeq (sRet (wIf (tBool (bPrim fNe [.ex (bPrim fIx [.sl 3, .ex (bPrim negF [.ex (bC (.int 1))])]), .ex (bC (.str "0"))])) (wVal (bVar 3)) (wIf (tBool (bPrim fLt [.ex (bPrim fLen [.sl 3]), .ex (bC (.int 8))])) (wPrim fAdd [.sl 3, .ex (bC (.str "1"))]) (wVal (bVar 1))))) (sOk .next))) e S) →
      ∃ x S' e', Pl x ∧ Dr (t + 2) S' ∧ m [(some (Slot.val (.ref 0))), (some (Slot.val (.str (sd a)))), (some (Slot.val (.int way))), none] S1 = .ok (.ret (.val (.str x))) e' S' := by
    intro m hm
    obtain ⟨r, S2, r0, r1, d2, e2⟩ := next_ok (many := ((a.length : Nat) : Int)) d1 (by omega) (by omega) (by omega)
    obtain ⟨k, rfl⟩ := Int.eq_ofNat_of_zero_le r0
    have kk : (1 : Int) + ((k : Nat) : Int) = ((k + 1 : Nat) : Int) := by omega
    have tk := take_sd (a := a) (k := k + 1) (by omega)
    obtain ⟨b, d, hb⟩ : ∃ b d, a.take (k + 1) = b ++ [d] := by
      have : (a.take (k + 1)).length ≠ 0 := by rw [List.length_take]; omega
      rcases List.eq_nil_or_concat (a.take (k + 1)) with z | ⟨b, d, z⟩
      · rw [z] at this; simp at this
      · exact ⟨b, d, by rw [z, List.concat_eq_append]⟩
    have hbl : b.length + 1 = k + 1 := by
      have := congrArg List.length hb
      rw [List.length_take, List.length_append, List.length_singleton] at this
      omega
    have bd : AllDigits (b ++ [d]) := by rw [← hb]; exact ad_take ad _
    have dd := bd d (by simp)
    have bb : AllDigits b := fun c hc => bd c (by simp [hc])
    rw [hb] at tk
    have lb : fIx [.str (sd (b ++ [d])), .int (-1)] = some (chD d) := last_s (w := sd (b ++ [d])) (l := b) (c := d) rfl (n := 100) (by rw [sd_len]; simp; omega) (by omega)
    have ne := ne_0 d
    have lnb := len_sd (a := b ++ [d]) (by simp; omega)
    have ltb : fLt [.int ((b ++ [d]).length : Nat), .int 8] = some (.bl (decide ((b ++ [d]).length < 8))) := by
      show some (D.bl (decide (((b ++ [d]).length : Int) < (8 : Int)))) = _
      congr 2
      exact decide_eq_decide.mpr (by omega)
    by_cases q : d = 48
    · rw [decide_eq_true q] at ne
      by_cases q8 : (b ++ [d]).length < 8
      · rw [decide_eq_true q8] at ltb
        have adn := add_sd (a := b ++ [d]) (b := [49]) (by simp; omega)
        rw [← one_s] at adn
        refine ⟨sd (b ++ [d] ++ [49]), S2, [(some (Slot.val (.ref 0))), (some (Slot.val (.str (sd a)))), (some (Slot.val (.int way))), (some (Slot.val (.str (sd (b ++ [d])))))], pl_mk bd ⟨by omega, by omega⟩ (by omega), d2, ?_⟩
        rw [hm]
        generalize (b ++ [d]) = z at *
        simp only [Int.ofNat_lt, Int.ofNat_le, bind_ok, bind_exc, bind_stuck, sizeLine_eq, fMod_i, fFdiv_i, fMul_i, fMul_i1, fMul_i2, fm0, fm1, fAdd_i, fSub_i, fPow_i, fAdd_l, fAdd_t, fAdd_s, fLt_i, fLe_i, fGt_i, fGe_i, evO, resW, evR, bPrim, bC, bVar, tTru, tBool, tNotB, tAndB, tOrB, bAnd, bOr, bNot, bIf, wIf, evX, bTup, wLst, wPrim, wVal, eFrz, wCall, sOk, sRet, sSet, sIf, sSeq, sDrop, sPar, evW, setAll, Tg.asg, Tg.asgs, mMut, sPutL, bGet, sPutD, wDisp, ePub, bIxL, sPutS, mChk, mInt, D.isStr, D.isInt, D.tru, fLen_l, fLen_t, List.length_map, iVal, itemsD, iRange, plainS, wipeE, backE, wComp, wCompB, List.all_cons, List.all_nil, Slot.isVal, Bool.and_true, Bool.true_and, Bool.and_self, fsem, env0, fill, wMove, Slot.frz, List.getElem?_cons_zero, List.getElem?_cons_succ, List.set_cons_zero, List.set_cons_succ, List.map_cons, List.map_nil, List.cons_append, List.nil_append, List.reduceReplicate, Option.getD_some, List.length_cons, List.length_nil, List.getD_cons_zero, List.getD_cons_succ, Nat.reduceAdd, Nat.reduceSub, Option.map_some, if_true, if_false, ite_true, ite_false, Bool.false_eq_true, reduceIte, Nat.reduceLeDiff, Nat.reduceEqDiff, Int.reduceEq, Int.reduceNe, Int.reduceLT, Int.reduceLE, Int.reduceNeg, Int.reducePow, ne_eq, not_false_eq_true, decide_true, decide_false, true_and, and_true, true_or, or_true, and_self, Bool.not_true, Bool.not_false, reduceCtorEq, ln, e2, kk, tk, ng, lb, ne, lnb, ltb, adn]
      · rw [decide_eq_false q8] at ltb
        refine ⟨sd a, S2, [(some (Slot.val (.ref 0))), (some (Slot.val (.str (sd a)))), (some (Slot.val (.int way))), (some (Slot.val (.str (sd (b ++ [d])))))], hw, d2, ?_⟩
        rw [hm]
        generalize (b ++ [d]) = z at *
        simp only [Int.ofNat_lt, Int.ofNat_le, bind_ok, bind_exc, bind_stuck, sizeLine_eq, fMod_i, fFdiv_i, fMul_i, fMul_i1, fMul_i2, fm0, fm1, fAdd_i, fSub_i, fPow_i, fAdd_l, fAdd_t, fAdd_s, fLt_i, fLe_i, fGt_i, fGe_i, evO, resW, evR, bPrim, bC, bVar, tTru, tBool, tNotB, tAndB, tOrB, bAnd, bOr, bNot, bIf, wIf, evX, bTup, wLst, wPrim, wVal, eFrz, wCall, sOk, sRet, sSet, sIf, sSeq, sDrop, sPar, evW, setAll, Tg.asg, Tg.asgs, mMut, sPutL, bGet, sPutD, wDisp, ePub, bIxL, sPutS, mChk, mInt, D.isStr, D.isInt, D.tru, fLen_l, fLen_t, List.length_map, iVal, itemsD, iRange, plainS, wipeE, backE, wComp, wCompB, List.all_cons, List.all_nil, Slot.isVal, Bool.and_true, Bool.true_and, Bool.and_self, fsem, env0, fill, wMove, Slot.frz, List.getElem?_cons_zero, List.getElem?_cons_succ, List.set_cons_zero, List.set_cons_succ, List.map_cons, List.map_nil, List.cons_append, List.nil_append, List.reduceReplicate, Option.getD_some, List.length_cons, List.length_nil, List.getD_cons_zero, List.getD_cons_succ, Nat.reduceAdd, Nat.reduceSub, Option.map_some, if_true, if_false, ite_true, ite_false, Bool.false_eq_true, reduceIte, Nat.reduceLeDiff, Nat.reduceEqDiff, Int.reduceEq, Int.reduceNe, Int.reduceLT, Int.reduceLE, Int.reduceNeg, Int.reducePow, ne_eq, not_false_eq_true, decide_true, decide_false, true_and, and_true, true_or, or_true, and_self, Bool.not_true, Bool.not_false, reduceCtorEq, ln, e2, kk, tk, ng, lb, ne, lnb, ltb]
    · rw [decide_eq_false q] at ne
      refine ⟨sd (b ++ [d]), S2, [(some (Slot.val (.ref 0))), (some (Slot.val (.str (sd a)))), (some (Slot.val (.int way))), (some (Slot.val (.str (sd (b ++ [d])))))], pl_mk bb ⟨by omega, by omega⟩ (by omega), d2, ?_⟩
      rw [hm]
      generalize (b ++ [d]) = z at *
      simp only [Int.ofNat_lt, Int.ofNat_le, bind_ok, bind_exc, bind_stuck, sizeLine_eq, fMod_i, fFdiv_i, fMul_i, fMul_i1, fMul_i2, fm0, fm1, fAdd_i, fSub_i, fPow_i, fAdd_l, fAdd_t, fAdd_s, fLt_i, fLe_i, fGt_i, fGe_i, evO, resW, evR, bPrim, bC, bVar, tTru, tBool, tNotB, tAndB, tOrB, bAnd, bOr, bNot, bIf, wIf, evX, bTup, wLst, wPrim, wVal, eFrz, wCall, sOk, sRet, sSet, sIf, sSeq, sDrop, sPar, evW, setAll, Tg.asg, Tg.asgs, mMut, sPutL, bGet, sPutD, wDisp, ePub, bIxL, sPutS, mChk, mInt, D.isStr, D.isInt, D.tru, fLen_l, fLen_t, List.length_map, iVal, itemsD, iRange, plainS, wipeE, backE, wComp, wCompB, List.all_cons, List.all_nil, Slot.isVal, Bool.and_true, Bool.true_and, Bool.and_self, fsem, env0, fill, wMove, Slot.frz, List.getElem?_cons_zero, List.getElem?_cons_succ, List.set_cons_zero, List.set_cons_succ, List.map_cons, List.map_nil, List.cons_append, List.nil_append, List.reduceReplicate, Option.getD_some, List.length_cons, List.length_nil, List.getD_cons_zero, List.getD_cons_succ, Nat.reduceAdd, Nat.reduceSub, Option.map_some, if_true, if_false, ite_true, ite_false, Bool.false_eq_true, reduceIte, Nat.reduceLeDiff, Nat.reduceEqDiff, Int.reduceEq, Int.reduceNe, Int.reduceLT, Int.reduceLE, Int.reduceNeg, Int.reducePow, ne_eq, not_false_eq_true, decide_true, decide_false, true_and, and_true, true_or, or_true, and_self, Bool.not_true, Bool.not_false, reduceCtorEq, ln, e2, kk, tk, ng, lb, ne]
  obtain ⟨x, S2, e', px, dx, ex⟩ := rest _ fun _ _ => rfl
  by_cases q1 : way = 1
  · have z1 : fEq [.int way, .int 1] = some (.bl true) := by rw [eq_i, decide_eq_true q1]
    by_cases q8 : a.length < 8
    · rw [decide_eq_true q8] at l8e
      obtain ⟨r, S3, r0, r1, d3, e3⟩ := next_ok (many := 8 - ((a.length : Nat) : Int)) d1 (by omega) (by omega) (by omega)
      obtain ⟨k, rfl⟩ := Int.eq_ofNat_of_zero_le r0
      have mu := mul_sd 48 k (by omega)
      rw [← zero_s] at mu
      have a1 := add_sd (a := a) (b := List.replicate k 48) (by simp; omega)
      have a2 := add_sd (a := a ++ List.replicate k 48) (b := [49]) (by simp; omega)
      rw [← one_s] at a2
      refine ⟨sd (a ++ List.replicate k 48 ++ [49]), S3, pl_mk (ad_app ad (ad_zeros _)) ⟨by omega, by omega⟩ (by simp; omega), d3.mono (by omega), ?_⟩
      simp only [F__law_near, m__law_near, Int.ofNat_lt, Int.ofNat_le, bind_ok, bind_exc, bind_stuck, sizeLine_eq, fMod_i, fFdiv_i, fMul_i, fMul_i1, fMul_i2, fm0, fm1, fAdd_i, fSub_i, fPow_i, fAdd_l, fAdd_t, fAdd_s, fLt_i, fLe_i, fGt_i, fGe_i, evO, resW, evR, bPrim, bC, bVar, tTru, tBool, tNotB, tAndB, tOrB, bAnd, bOr, bNot, bIf, wIf, evX, bTup, wLst, wPrim, wVal, eFrz, wCall, sOk, sRet, sSet, sIf, sSeq, sDrop, sPar, evW, setAll, Tg.asg, Tg.asgs, mMut, sPutL, bGet, sPutD, wDisp, ePub, bIxL, sPutS, mChk, mInt, D.isStr, D.isInt, D.tru, fLen_l, fLen_t, List.length_map, iVal, itemsD, iRange, plainS, wipeE, backE, wComp, wCompB, List.all_cons, List.all_nil, Slot.isVal, Bool.and_true, Bool.true_and, Bool.and_self, fsem, env0, fill, wMove, Slot.frz, List.getElem?_cons_zero, List.getElem?_cons_succ, List.set_cons_zero, List.set_cons_succ, List.map_cons, List.map_nil, List.cons_append, List.nil_append, List.reduceReplicate, Option.getD_some, List.length_cons, List.length_nil, List.getD_cons_zero, List.getD_cons_succ, Nat.reduceAdd, Nat.reduceSub, Option.map_some, if_true, if_false, ite_true, ite_false, Bool.false_eq_true, reduceIte, Nat.reduceLeDiff, Nat.reduceEqDiff, Int.reduceEq, Int.reduceNe, Int.reduceLT, Int.reduceLE, Int.reduceNeg, Int.reducePow, ne_eq, not_false_eq_true, decide_true, decide_false, true_and, and_true, true_or, or_true, and_self, Bool.not_true, Bool.not_false, reduceCtorEq, e1, z0, z1, ln, l8e, e3, mu, a1, a2]
    · rw [decide_eq_false q8] at l8e
      have z2 : fEq [.int way, .int 2] = some (.bl false) := by rw [eq_i, decide_eq_false (by omega)]
      refine ⟨x, S2, px, dx.mono (by omega), ?_⟩
      simp only [F__law_near, m__law_near, Int.ofNat_lt, Int.ofNat_le, bind_ok, bind_exc, bind_stuck, sizeLine_eq, fMod_i, fFdiv_i, fMul_i, fMul_i1, fMul_i2, fm0, fm1, fAdd_i, fSub_i, fPow_i, fAdd_l, fAdd_t, fAdd_s, fLt_i, fLe_i, fGt_i, fGe_i, evO, resW, evR, bPrim, bC, bVar, tTru, tBool, tNotB, tAndB, tOrB, bAnd, bOr, bNot, bIf, wIf, evX, bTup, wLst, wPrim, wVal, eFrz, wCall, sOk, sRet, sSet, sIf, sSeq, sDrop, sPar, evW, setAll, Tg.asg, Tg.asgs, mMut, sPutL, bGet, sPutD, wDisp, ePub, bIxL, sPutS, mChk, mInt, D.isStr, D.isInt, D.tru, fLen_l, fLen_t, List.length_map, iVal, itemsD, iRange, plainS, wipeE, backE, wComp, wCompB, List.all_cons, List.all_nil, Slot.isVal, Bool.and_true, Bool.true_and, Bool.and_self, fsem, env0, fill, wMove, Slot.frz, List.getElem?_cons_zero, List.getElem?_cons_succ, List.set_cons_zero, List.set_cons_succ, List.map_cons, List.map_nil, List.cons_append, List.nil_append, List.reduceReplicate, Option.getD_some, List.length_cons, List.length_nil, List.getD_cons_zero, List.getD_cons_succ, Nat.reduceAdd, Nat.reduceSub, Option.map_some, if_true, if_false, ite_true, ite_false, Bool.false_eq_true, reduceIte, Nat.reduceLeDiff, Nat.reduceEqDiff, Int.reduceEq, Int.reduceNe, Int.reduceLT, Int.reduceLE, Int.reduceNeg, Int.reducePow, ne_eq, not_false_eq_true, decide_true, decide_false, true_and, and_true, true_or, or_true, and_self, Bool.not_true, Bool.not_false, reduceCtorEq, e1, z0, z1, ln, l8e, z2] at ex ⊢
      rw [ex]
  · have z1 : fEq [.int way, .int 1] = some (.bl false) := by rw [eq_i, decide_eq_false q1]
    by_cases q2 : way = 2
    · have z2 : fEq [.int way, .int 2] = some (.bl true) := by rw [eq_i, decide_eq_true q2]
      have l9 := lt_9 c
      by_cases q9 : c < 57
      · rw [decide_eq_true q9] at l9
        have id := index_dig cd
        have n9 := nine_ix (c := c) ⟨cd.1, by omega⟩
        have t1 := to_m1 (a := l) (c := c) (by rw [e] at l8; simp at l8; omega)
        rw [← e] at t1
        have a1 := add_sd (a := l) (b := [c + 1]) (by rw [e] at l8; simp at l8 ⊢; omega)
        have a1 : fAdd [.str (sd l), chD (c + 1)] = some (.str (sd (l ++ [c + 1]))) := a1
        refine ⟨sd (l ++ [c + 1]), S1, pl_mk (fun d hd => ad d (by rw [e]; simp [hd])) ⟨by omega, by omega⟩ (by rw [e] at l8; simp at l8; omega), d1.mono (by omega), ?_⟩
        simp only [F__law_near, m__law_near, Int.ofNat_lt, Int.ofNat_le, bind_ok, bind_exc, bind_stuck, sizeLine_eq, fMod_i, fFdiv_i, fMul_i, fMul_i1, fMul_i2, fm0, fm1, fAdd_i, fSub_i, fPow_i, fAdd_l, fAdd_t, fAdd_s, fLt_i, fLe_i, fGt_i, fGe_i, evO, resW, evR, bPrim, bC, bVar, tTru, tBool, tNotB, tAndB, tOrB, bAnd, bOr, bNot, bIf, wIf, evX, bTup, wLst, wPrim, wVal, eFrz, wCall, sOk, sRet, sSet, sIf, sSeq, sDrop, sPar, evW, setAll, Tg.asg, Tg.asgs, mMut, sPutL, bGet, sPutD, wDisp, ePub, bIxL, sPutS, mChk, mInt, D.isStr, D.isInt, D.tru, fLen_l, fLen_t, List.length_map, iVal, itemsD, iRange, plainS, wipeE, backE, wComp, wCompB, List.all_cons, List.all_nil, Slot.isVal, Bool.and_true, Bool.true_and, Bool.and_self, fsem, env0, fill, wMove, Slot.frz, List.getElem?_cons_zero, List.getElem?_cons_succ, List.set_cons_zero, List.set_cons_succ, List.map_cons, List.map_nil, List.cons_append, List.nil_append, List.reduceReplicate, Option.getD_some, List.length_cons, List.length_nil, List.getD_cons_zero, List.getD_cons_succ, Nat.reduceAdd, Nat.reduceSub, Option.map_some, if_true, if_false, ite_true, ite_false, Bool.false_eq_true, reduceIte, Nat.reduceLeDiff, Nat.reduceEqDiff, Int.reduceEq, Int.reduceNe, Int.reduceLT, Int.reduceLE, Int.reduceNeg, Int.reducePow, ne_eq, not_false_eq_true, decide_true, decide_false, true_and, and_true, true_or, or_true, and_self, Bool.not_true, Bool.not_false, reduceCtorEq, e1, z0, z1, z2, ng, la, l9, t1, id, n9, a1]
      · rw [decide_eq_false q9] at l9
        refine ⟨x, S2, px, dx.mono (by omega), ?_⟩
        simp only [F__law_near, m__law_near, Int.ofNat_lt, Int.ofNat_le, bind_ok, bind_exc, bind_stuck, sizeLine_eq, fMod_i, fFdiv_i, fMul_i, fMul_i1, fMul_i2, fm0, fm1, fAdd_i, fSub_i, fPow_i, fAdd_l, fAdd_t, fAdd_s, fLt_i, fLe_i, fGt_i, fGe_i, evO, resW, evR, bPrim, bC, bVar, tTru, tBool, tNotB, tAndB, tOrB, bAnd, bOr, bNot, bIf, wIf, evX, bTup, wLst, wPrim, wVal, eFrz, wCall, sOk, sRet, sSet, sIf, sSeq, sDrop, sPar, evW, setAll, Tg.asg, Tg.asgs, mMut, sPutL, bGet, sPutD, wDisp, ePub, bIxL, sPutS, mChk, mInt, D.isStr, D.isInt, D.tru, fLen_l, fLen_t, List.length_map, iVal, itemsD, iRange, plainS, wipeE, backE, wComp, wCompB, List.all_cons, List.all_nil, Slot.isVal, Bool.and_true, Bool.true_and, Bool.and_self, fsem, env0, fill, wMove, Slot.frz, List.getElem?_cons_zero, List.getElem?_cons_succ, List.set_cons_zero, List.set_cons_succ, List.map_cons, List.map_nil, List.cons_append, List.nil_append, List.reduceReplicate, Option.getD_some, List.length_cons, List.length_nil, List.getD_cons_zero, List.getD_cons_succ, Nat.reduceAdd, Nat.reduceSub, Option.map_some, if_true, if_false, ite_true, ite_false, Bool.false_eq_true, reduceIte, Nat.reduceLeDiff, Nat.reduceEqDiff, Int.reduceEq, Int.reduceNe, Int.reduceLT, Int.reduceLE, Int.reduceNeg, Int.reducePow, ne_eq, not_false_eq_true, decide_true, decide_false, true_and, and_true, true_or, or_true, and_self, Bool.not_true, Bool.not_false, reduceCtorEq, e1, z0, z1, ng, la, l9, z2] at ex ⊢
        rw [ex]
    · have z2 : fEq [.int way, .int 2] = some (.bl false) := by rw [eq_i, decide_eq_false q2]
      refine ⟨x, S2, px, dx.mono (by omega), ?_⟩
      simp only [F__law_near, m__law_near, Int.ofNat_lt, Int.ofNat_le, bind_ok, bind_exc, bind_stuck, sizeLine_eq, fMod_i, fFdiv_i, fMul_i, fMul_i1, fMul_i2, fm0, fm1, fAdd_i, fSub_i, fPow_i, fAdd_l, fAdd_t, fAdd_s, fLt_i, fLe_i, fGt_i, fGe_i, evO, resW, evR, bPrim, bC, bVar, tTru, tBool, tNotB, tAndB, tOrB, bAnd, bOr, bNot, bIf, wIf, evX, bTup, wLst, wPrim, wVal, eFrz, wCall, sOk, sRet, sSet, sIf, sSeq, sDrop, sPar, evW, setAll, Tg.asg, Tg.asgs, mMut, sPutL, bGet, sPutD, wDisp, ePub, bIxL, sPutS, mChk, mInt, D.isStr, D.isInt, D.tru, fLen_l, fLen_t, List.length_map, iVal, itemsD, iRange, plainS, wipeE, backE, wComp, wCompB, List.all_cons, List.all_nil, Slot.isVal, Bool.and_true, Bool.true_and, Bool.and_self, fsem, env0, fill, wMove, Slot.frz, List.getElem?_cons_zero, List.getElem?_cons_succ, List.set_cons_zero, List.set_cons_succ, List.map_cons, List.map_nil, List.cons_append, List.nil_append, List.reduceReplicate, Option.getD_some, List.length_cons, List.length_nil, List.getD_cons_zero, List.getD_cons_succ, Nat.reduceAdd, Nat.reduceSub, Option.map_some, if_true, if_false, ite_true, ite_false, Bool.false_eq_true, reduceIte, Nat.reduceLeDiff, Nat.reduceEqDiff, Int.reduceEq, Int.reduceNe, Int.reduceLT, Int.reduceLE, Int.reduceNeg, Int.reducePow, ne_eq, not_false_eq_true, decide_true, decide_false, true_and, and_true, true_or, or_true, and_self, Bool.not_true, Bool.not_false, reduceCtorEq, e1, z0, z1, z2] at ex ⊢
      rw [ex]

/-! ### the law -/
def env04 (ns : List D) (x2 x3 x4 x5 x6 x7 x8 x9 x10 : Option Slot) : Env := [(some (Slot.val (.lst ns))), (some (Slot.val (.ref 0))), x2, x3, x4, x5, x6, x7, x8, x9, x10]
theorem pairs_loop {ns : List D} {x2 x3 x4 x5 x6 x7 x10 : Option Slot} (S : Sto) : ∀ (ps : List (D × D)) (x8 x9 : Option Slot), (∀ p ∈ ps, F__law_right [p.1, p.2] S = .ok (.val (.bl true)) [] S) →
    ∃ y8 y9, forL (.tp [.nm 8, .nm 9]) m_law_0 (ps.map fun p => .tup [p.1, p.2]) (env04 ns x2 x3 x4 x5 x6 x7 x8 x9 x10) S = .ok .next (env04 ns x2 x3 x4 x5 x6 x7 y8 y9 x10) S
  | [], x8, x9, _ => ⟨x8, x9, rfl⟩
  | p :: ps, x8, x9, h => by
    obtain ⟨y8, y9, ih⟩ := pairs_loop S ps (some (Slot.val (p.1))) (some (Slot.val (p.2))) fun q hq => h q (List.mem_cons_of_mem _ hq)
    have e := h p List.mem_cons_self
    have st : m_law_0 (env04 ns x2 x3 x4 x5 x6 x7 (some (Slot.val (p.1))) (some (Slot.val (p.2))) x10) S = .ok .next (env04 ns x2 x3 x4 x5 x6 x7 (some (Slot.val (p.1))) (some (Slot.val (p.2))) x10) S := by
      simp only [m_law_0, env04, Int.ofNat_lt, Int.ofNat_le, bind_ok, bind_exc, bind_stuck, sizeLine_eq, fMod_i, fFdiv_i, fMul_i, fMul_i1, fMul_i2, fm0, fm1, fAdd_i, fSub_i, fPow_i, fAdd_l, fAdd_t, fAdd_s, fLt_i, fLe_i, fGt_i, fGe_i, evO, resW, evR, bPrim, bC, bVar, tTru, tBool, tNotB, tAndB, tOrB, bAnd, bOr, bNot, bIf, wIf, evX, bTup, wLst, wPrim, wVal, eFrz, wCall, sOk, sRet, sSet, sIf, sSeq, sDrop, sPar, evW, setAll, Tg.asg, Tg.asgs, mMut, sPutL, bGet, sPutD, wDisp, ePub, bIxL, sPutS, mChk, mInt, D.isStr, D.isInt, D.tru, fLen_l, fLen_t, List.length_map, iVal, itemsD, iRange, plainS, wipeE, backE, wComp, wCompB, List.all_cons, List.all_nil, Slot.isVal, Bool.and_true, Bool.true_and, Bool.and_self, fsem, env0, fill, wMove, Slot.frz, List.getElem?_cons_zero, List.getElem?_cons_succ, List.set_cons_zero, List.set_cons_succ, List.map_cons, List.map_nil, List.cons_append, List.nil_append, List.reduceReplicate, Option.getD_some, List.length_cons, List.length_nil, List.getD_cons_zero, List.getD_cons_succ, Nat.reduceAdd, Nat.reduceSub, Option.map_some, if_true, if_false, ite_true, ite_false, Bool.false_eq_true, reduceIte, Nat.reduceLeDiff, Nat.reduceEqDiff, Int.reduceEq, Int.reduceNe, Int.reduceLT, Int.reduceLE, Int.reduceNeg, Int.reducePow, ne_eq, not_false_eq_true, decide_true, decide_false, true_and, and_true, true_or, or_true, and_self, Bool.not_true, Bool.not_false, reduceCtorEq, e]
    refine ⟨y8, y9, ?_⟩
    rw [List.map_cons, forL_step rfl st, ih]
theorem shp_pl {x : Str} (h : Pl x) : (D.str x).shp = true := by
  unfold D.shp
  rw [Bool.and_eq_true]
  refine ⟨?_, decide_eq_true (show (0 : Nat) ≤ 64 by omega)⟩
  show (x.cps.all fun c => decide (c < 0x110000)) = true
  rw [← Array.all_toList, List.all_eq_true]
  intro c hc
  have := h.ad c hc
  exact decide_eq_true (by omega)
theorem in2 {x : Str} (hx : (D.str x).shp = true) : fIn [.str x, .lst [.str "no room", .str "bad"]] = some (.bl (decide (x = "no room") || decide (x = "bad"))) := by
  have e1 := eqv_nb (d := .str "no room") (e := .str x) rfl rfl
  have e2 := eqv_nb (d := .str "bad") (e := .str x) rfl rfl
  show (fInB [.str x, .lst [.str "no room", .str "bad"]]).map D.bl = _
  have : fInB [.str x, .lst [.str "no room", .str "bad"]] = some (decide (x = "no room") || decide (x = "bad")) := by
    show (if _ then some (([D.str "no room", D.str "bad"] : List D).any fun z => PyData.eqv z.py (D.str x).py) else none) = _
    rw [if_pos ⟨hx, by decide +kernel⟩]
    congr 1
    simp only [List.any_cons, List.any_nil, Bool.or_false]
    congr 1
    · rw [Bool.eq_iff_iff, e1, decide_eq_true_eq]
      exact ⟨fun z => by cases z; rfl, fun z => by rw [z]⟩
    · rw [Bool.eq_iff_iff, e2, decide_eq_true_eq]
      exact ⟨fun z => by cases z; rfl, fun z => by rw [z]⟩
  rw [this]; rfl
theorem bad_s {u : List Nat} (h : Pl (sd u)) : decide (sd u = "bad") = false := decide_eq_false fun e => by
  have a := h.ad
  rw [e] at a
  have := a 98 (by decide +kernel)
  omega
theorem OkO.some {x : Str} (h : Pl x) : OkO (some x) := fun y e => by cases e; exact h
theorem OkO.none : OkO none := fun y e => by cases e
theorem turns {t : Nat} {S : Sto} {ns : List D} {x2 x3 x4 x5 x6 x7 x10 : Option Slot} {u o : Str} (h : Dr t S) (ht : t < 10000000) (hu : Pl u) (ho : Pl o) :
    ∃ y7 y8 y9 y10 S', Dr (t + 12) S' ∧ forL (.nm 7) m_law_1 (rangeD 0 12 1) (env04 ns x2 x3 x4 x5 x6 x7 (some (Slot.val (.str u))) (some (Slot.val (.str o))) x10) S = .ok .next (env04 ns x2 x3 x4 x5 x6 y7 y8 y9 y10) S' := by
  refine forL_inv (fun i e S => ∃ x7 u o x10, Pl u ∧ Pl o ∧ Dr (t + i) S ∧ e = env04 ns x2 x3 x4 x5 x6 x7 (some (Slot.val (.str u))) (some (Slot.val (.str o))) x10) (fun out => ∃ y7 y8 y9 y10 S', Dr (t + 12) S' ∧ out = .ok .next (env04 ns x2 x3 x4 x5 x6 y7 y8 y9 y10) S') (rangeD 0 12 1) 0 _ S ⟨x7, u, o, x10, hu, ho, h, rfl⟩ (fun j d e S hd hI => ?_) fun e S hI => ?_
  · obtain ⟨x7, u, o, x10, hu, ho, hD, rfl⟩ := hI
    have hj : j < 12 := (rangeD_get hd).1
    refine ⟨env04 ns x2 x3 x4 x5 x6 (some (Slot.val (d))) (some (Slot.val (.str u))) (some (Slot.val (.str o))) x10, rfl, ?_⟩
    have sa := said_ok (OkO.some hu) (OkO.some ho) S
    simp only [oD] at sa
    by_cases q : badP (some u) (some o) = true
    · have eT : saidT (some u) (some o) = "bad" := by unfold saidT; rw [if_pos q]
      have iT := in2 (x := "bad") (by decide +kernel)
      rw [eT] at sa
      rw [show (decide (("bad" : Str) = "no room") || decide (("bad" : Str) = "bad")) = true by decide +kernel] at iT
      refine ⟨.brk, env04 ns x2 x3 x4 x5 x6 (some (Slot.val (d))) (some (Slot.val (.str u))) (some (Slot.val (.str o))) (some (Slot.val (.str "bad"))), S, ?_, _, _, _, _, S, hD.mono (by omega), rfl⟩
      simp only [m_law_1, env04, Int.ofNat_lt, Int.ofNat_le, bind_ok, bind_exc, bind_stuck, sizeLine_eq, fMod_i, fFdiv_i, fMul_i, fMul_i1, fMul_i2, fm0, fm1, fAdd_i, fSub_i, fPow_i, fAdd_l, fAdd_t, fAdd_s, fLt_i, fLe_i, fGt_i, fGe_i, evO, resW, evR, bPrim, bC, bVar, tTru, tBool, tNotB, tAndB, tOrB, bAnd, bOr, bNot, bIf, wIf, evX, bTup, wLst, wPrim, wVal, eFrz, wCall, sOk, sRet, sSet, sIf, sSeq, sDrop, sPar, evW, setAll, Tg.asg, Tg.asgs, mMut, sPutL, bGet, sPutD, wDisp, ePub, bIxL, sPutS, mChk, mInt, D.isStr, D.isInt, D.tru, fLen_l, fLen_t, List.length_map, iVal, itemsD, iRange, plainS, wipeE, backE, wComp, wCompB, List.all_cons, List.all_nil, Slot.isVal, Bool.and_true, Bool.true_and, Bool.and_self, fsem, env0, fill, wMove, Slot.frz, List.getElem?_cons_zero, List.getElem?_cons_succ, List.set_cons_zero, List.set_cons_succ, List.map_cons, List.map_nil, List.cons_append, List.nil_append, List.reduceReplicate, Option.getD_some, List.length_cons, List.length_nil, List.getD_cons_zero, List.getD_cons_succ, Nat.reduceAdd, Nat.reduceSub, Option.map_some, if_true, if_false, ite_true, ite_false, Bool.false_eq_true, reduceIte, Nat.reduceLeDiff, Nat.reduceEqDiff, Int.reduceEq, Int.reduceNe, Int.reduceLT, Int.reduceLE, Int.reduceNeg, Int.reducePow, ne_eq, not_false_eq_true, decide_true, decide_false, true_and, and_true, true_or, or_true, and_self, Bool.not_true, Bool.not_false, reduceCtorEq, sa, iT]
    · cases z : dueS (some u) (some o) with
      | none =>
        have eT : saidT (some u) (some o) = "no room" := by unfold saidT; rw [if_neg q, z]
        have iT := in2 (x := "no room") (by decide +kernel)
        rw [eT] at sa
        rw [show (decide (("no room" : Str) = "no room") || decide (("no room" : Str) = "bad")) = true by decide +kernel] at iT
        refine ⟨.brk, env04 ns x2 x3 x4 x5 x6 (some (Slot.val (d))) (some (Slot.val (.str u))) (some (Slot.val (.str o))) (some (Slot.val (.str "no room"))), S, ?_, _, _, _, _, S, hD.mono (by omega), rfl⟩
        simp only [m_law_1, env04, Int.ofNat_lt, Int.ofNat_le, bind_ok, bind_exc, bind_stuck, sizeLine_eq, fMod_i, fFdiv_i, fMul_i, fMul_i1, fMul_i2, fm0, fm1, fAdd_i, fSub_i, fPow_i, fAdd_l, fAdd_t, fAdd_s, fLt_i, fLe_i, fGt_i, fGe_i, evO, resW, evR, bPrim, bC, bVar, tTru, tBool, tNotB, tAndB, tOrB, bAnd, bOr, bNot, bIf, wIf, evX, bTup, wLst, wPrim, wVal, eFrz, wCall, sOk, sRet, sSet, sIf, sSeq, sDrop, sPar, evW, setAll, Tg.asg, Tg.asgs, mMut, sPutL, bGet, sPutD, wDisp, ePub, bIxL, sPutS, mChk, mInt, D.isStr, D.isInt, D.tru, fLen_l, fLen_t, List.length_map, iVal, itemsD, iRange, plainS, wipeE, backE, wComp, wCompB, List.all_cons, List.all_nil, Slot.isVal, Bool.and_true, Bool.true_and, Bool.and_self, fsem, env0, fill, wMove, Slot.frz, List.getElem?_cons_zero, List.getElem?_cons_succ, List.set_cons_zero, List.set_cons_succ, List.map_cons, List.map_nil, List.cons_append, List.nil_append, List.reduceReplicate, Option.getD_some, List.length_cons, List.length_nil, List.getD_cons_zero, List.getD_cons_succ, Nat.reduceAdd, Nat.reduceSub, Option.map_some, if_true, if_false, ite_true, ite_false, Bool.false_eq_true, reduceIte, Nat.reduceLeDiff, Nat.reduceEqDiff, Int.reduceEq, Int.reduceNe, Int.reduceLT, Int.reduceLE, Int.reduceNeg, Int.reducePow, ne_eq, not_false_eq_true, decide_true, decide_false, true_and, and_true, true_or, or_true, and_self, Bool.not_true, Bool.not_false, reduceCtorEq, sa, iT]
      | some m =>
        obtain ⟨pm, _, _⟩ := due_pl (OkO.some hu) (OkO.some ho) z
        have eT : saidT (some u) (some o) = sd m := by unfold saidT; rw [if_neg q, z]
        have iT := in2 (x := sd m) (shp_pl pm)
        rw [eT] at sa
        rw [room_s pm, bad_s pm, Bool.or_false] at iT
        have r1 := right_ok (OkO.some hu) (OkO.some pm) S
        have r2 := right_ok (OkO.some pm) (OkO.some ho) S
        simp only [oD] at r1 r2
        obtain ⟨r, S2, k0, k1, d2, e2⟩ := next_ok (many := 2) hD (by omega) (by omega) (by omega)
        obtain ⟨k, rfl⟩ := Int.eq_ofNat_of_zero_le k0
        have : k = 0 ∨ k = 1 := by omega
        rcases this with rfl | rfl
        · have ix : fIx [.lst [.tup [.str u, .str (sd m)], .tup [.str (sd m), .str o]], .int ((0 : Nat) : Int)] = some (.tup [.str u, .str (sd m)]) := rfl
          refine ⟨.next, env04 ns x2 x3 x4 x5 x6 (some (Slot.val (d))) (some (Slot.val (.str u))) (some (Slot.val (.str (sd m)))) (some (Slot.val (.str (sd m)))), S2, ?_, _, _, _, _, hu, pm, d2.mono (by omega), rfl⟩
          simp only [m_law_1, sAsg, env04, Int.ofNat_lt, Int.ofNat_le, bind_ok, bind_exc, bind_stuck, sizeLine_eq, fMod_i, fFdiv_i, fMul_i, fMul_i1, fMul_i2, fm0, fm1, fAdd_i, fSub_i, fPow_i, fAdd_l, fAdd_t, fAdd_s, fLt_i, fLe_i, fGt_i, fGe_i, evO, resW, evR, bPrim, bC, bVar, tTru, tBool, tNotB, tAndB, tOrB, bAnd, bOr, bNot, bIf, wIf, evX, bTup, wLst, wPrim, wVal, eFrz, wCall, sOk, sRet, sSet, sIf, sSeq, sDrop, sPar, evW, setAll, Tg.asg, Tg.asgs, mMut, sPutL, bGet, sPutD, wDisp, ePub, bIxL, sPutS, mChk, mInt, D.isStr, D.isInt, D.tru, fLen_l, fLen_t, List.length_map, iVal, itemsD, iRange, plainS, wipeE, backE, wComp, wCompB, List.all_cons, List.all_nil, Slot.isVal, Bool.and_true, Bool.true_and, Bool.and_self, fsem, env0, fill, wMove, Slot.frz, List.getElem?_cons_zero, List.getElem?_cons_succ, List.set_cons_zero, List.set_cons_succ, List.map_cons, List.map_nil, List.cons_append, List.nil_append, List.reduceReplicate, Option.getD_some, List.length_cons, List.length_nil, List.getD_cons_zero, List.getD_cons_succ, Nat.reduceAdd, Nat.reduceSub, Option.map_some, if_true, if_false, ite_true, ite_false, Bool.false_eq_true, reduceIte, Nat.reduceLeDiff, Nat.reduceEqDiff, Int.reduceEq, Int.reduceNe, Int.reduceLT, Int.reduceLE, Int.reduceNeg, Int.reducePow, ne_eq, not_false_eq_true, decide_true, decide_false, true_and, and_true, true_or, or_true, and_self, Bool.not_true, Bool.not_false, reduceCtorEq, sa, iT, r1, r2, e2, ix]
        · have ix : fIx [.lst [.tup [.str u, .str (sd m)], .tup [.str (sd m), .str o]], .int ((1 : Nat) : Int)] = some (.tup [.str (sd m), .str o]) := rfl
          refine ⟨.next, env04 ns x2 x3 x4 x5 x6 (some (Slot.val (d))) (some (Slot.val (.str (sd m)))) (some (Slot.val (.str o))) (some (Slot.val (.str (sd m)))), S2, ?_, _, _, _, _, pm, ho, d2.mono (by omega), rfl⟩
          simp only [m_law_1, sAsg, env04, Int.ofNat_lt, Int.ofNat_le, bind_ok, bind_exc, bind_stuck, sizeLine_eq, fMod_i, fFdiv_i, fMul_i, fMul_i1, fMul_i2, fm0, fm1, fAdd_i, fSub_i, fPow_i, fAdd_l, fAdd_t, fAdd_s, fLt_i, fLe_i, fGt_i, fGe_i, evO, resW, evR, bPrim, bC, bVar, tTru, tBool, tNotB, tAndB, tOrB, bAnd, bOr, bNot, bIf, wIf, evX, bTup, wLst, wPrim, wVal, eFrz, wCall, sOk, sRet, sSet, sIf, sSeq, sDrop, sPar, evW, setAll, Tg.asg, Tg.asgs, mMut, sPutL, bGet, sPutD, wDisp, ePub, bIxL, sPutS, mChk, mInt, D.isStr, D.isInt, D.tru, fLen_l, fLen_t, List.length_map, iVal, itemsD, iRange, plainS, wipeE, backE, wComp, wCompB, List.all_cons, List.all_nil, Slot.isVal, Bool.and_true, Bool.true_and, Bool.and_self, fsem, env0, fill, wMove, Slot.frz, List.getElem?_cons_zero, List.getElem?_cons_succ, List.set_cons_zero, List.set_cons_succ, List.map_cons, List.map_nil, List.cons_append, List.nil_append, List.reduceReplicate, Option.getD_some, List.length_cons, List.length_nil, List.getD_cons_zero, List.getD_cons_succ, Nat.reduceAdd, Nat.reduceSub, Option.map_some, if_true, if_false, ite_true, ite_false, Bool.false_eq_true, reduceIte, Nat.reduceLeDiff, Nat.reduceEqDiff, Int.reduceEq, Int.reduceNe, Int.reduceLT, Int.reduceLE, Int.reduceNeg, Int.reducePow, ne_eq, not_false_eq_true, decide_true, decide_false, true_and, and_true, true_or, or_true, and_self, Bool.not_true, Bool.not_false, reduceCtorEq, sa, iT, r1, r2, e2, ix]
  · obtain ⟨x7, u, o, x10, _, _, hD, rfl⟩ := hI
    exact ⟨_, _, _, _, S, hD.mono (by rw [rangeD_length]; omega), rfl⟩
theorem law_step {t : Nat} {S : Sto} {ns : List D} {j : Nat} {x2 x3 x4 x5 x6 x7 x8 x9 x10 : Option Slot} (h : Dr t S) (ht : t < 900000) : ∃ y2 y3 y4 y5 y6 y7 y8 y9 y10 S', Dr (t + 100) S' ∧ ∀ ds, forL (.nm 2) m_law_2 (.int (j : Nat) :: ds) (env04 ns x2 x3 x4 x5 x6 x7 x8 x9 x10) S = forL (.nm 2) m_law_2 ds (env04 ns y2 y3 y4 y5 y6 y7 y8 y9 y10) S' := by
  obtain ⟨one, S1, h1, d1, e1⟩ := law_place_ok h (by omega)
  obtain ⟨other, S2, h2, d2, e2⟩ := law_near_ok d1 (by omega) h1
  obtain ⟨r, S3, r1, r2, d3, e3⟩ := next_ok (many := 11) d2 (by omega) (by omega) (by omega)
  obtain ⟨odd, ho, fo⟩ : ∃ odd, (odd = .non ∨ Odd odd) ∧ fIx [.lst [.non, .int 5, .bl true, .str "", .str "0", .str "10", .str "a", .str "123456789", .lst [.str "1"], .tup [.str "1"], .str "1 "], .int r] = some odd := by
    obtain ⟨k, rfl⟩ := Int.eq_ofNat_of_zero_le r1
    have : k = 0 ∨ k = 1 ∨ k = 2 ∨ k = 3 ∨ k = 4 ∨ k = 5 ∨ k = 6 ∨ k = 7 ∨ k = 8 ∨ k = 9 ∨ k = 10 := by omega
    rcases this with rfl | rfl | rfl | rfl | rfl | rfl | rfl | rfl | rfl | rfl | rfl
    · exact ⟨.non, .inl rfl, rfl⟩
    · exact ⟨_, .inr odd_5, rfl⟩
    · exact ⟨_, .inr odd_t, rfl⟩
    · exact ⟨_, .inr odd_e, rfl⟩
    · exact ⟨_, .inr odd_0, rfl⟩
    · exact ⟨_, .inr odd_10, rfl⟩
    · exact ⟨_, .inr odd_a, rfl⟩
    · exact ⟨_, .inr odd_9, rfl⟩
    · exact ⟨_, .inr odd_l, rfl⟩
    · exact ⟨_, .inr odd_p, rfl⟩
    · exact ⟨_, .inr odd_1, rfl⟩
  have p1 := OkO.some h1
  have p2 := OkO.some h2
  have pr : ∀ p ∈ [((.str one, .str other) : D × D), (.str other, .str one), (.non, .str one), (.str one, .non), (.non, .non), (odd, .str one), (.str one, odd), (odd, odd)], F__law_right [p.1, p.2] S3 = .ok (.val (.bl true)) [] S3 := by
    have a1 := right_ok p1 p2 S3
    have a2 := right_ok p2 p1 S3
    have a3 := right_ok OkO.none p1 S3
    have a4 := right_ok p1 OkO.none S3
    have a5 := right_ok OkO.none OkO.none S3
    intro p hp
    simp only [List.mem_cons, List.not_mem_nil, or_false] at hp
    rcases hp with rfl | rfl | rfl | rfl | rfl | rfl | rfl | rfl
    · exact a1
    · exact a2
    · exact a3
    · exact a4
    · exact a5
    · rcases ho with rfl | ho
      · exact a3
      · exact right_odd1 ho S3
    · rcases ho with rfl | ho
      · exact a4
      · exact right_odd2 p1 ho S3
    · rcases ho with rfl | ho
      · exact a5
      · exact right_odd1 ho S3
  obtain ⟨y8, y9, l1⟩ := pairs_loop (ns := ns) (x2 := (some (Slot.val (.int (j : Nat))))) (x3 := (some (Slot.val (.str one)))) (x4 := (some (Slot.val (.str other)))) (x5 := (some (Slot.val (odd)))) (x6 := (some (Slot.val (.lst [.tup [.str one, .str other], .tup [.str other, .str one], .tup [.non, .str one], .tup [.str one, .non], .tup [.non, .non], .tup [odd, .str one], .tup [.str one, odd], .tup [odd, odd]])))) (x7 := x7) (x10 := x10) S3 _ x8 x9 pr
  simp only [List.map_cons, List.map_nil] at l1
  have mn : fMinS [.str one, .str other] = some (.str (if strLt other one = true then other else one)) := rfl
  have mx : fMaxS [.str one, .str other] = some (.str (if strLt one other = true then other else one)) := rfl
  have pa : ∀ b : Bool, Pl (if b = true then other else one) := fun b => by cases b <;> simp <;> assumption
  have q1 := pa (strLt other one)
  have q2 := pa (strLt one other)
  generalize (if strLt other one = true then other else one) = u at mn q1
  generalize (if strLt one other = true then other else one) = o at mx q2
  have rg := range1_ok 12 (by omega)
  have rg : range1 [.int 12] = some (rangeD 0 12 1) := rg
  obtain ⟨z7, z8, z9, z10, S4, d4, l2⟩ := turns (ns := ns) (x2 := (some (Slot.val (.int (j : Nat))))) (x3 := (some (Slot.val (.str one)))) (x4 := (some (Slot.val (.str other)))) (x5 := (some (Slot.val (odd)))) (x6 := (some (Slot.val (.lst [.tup [.str one, .str other], .tup [.str other, .str one], .tup [.non, .str one], .tup [.str one, .non], .tup [.non, .non], .tup [odd, .str one], .tup [.str one, odd], .tup [odd, odd]])))) (x7 := x7) (x10 := x10) d3 (by omega) q1 q2
  refine ⟨(some (Slot.val (.int (j : Nat)))), (some (Slot.val (.str one))), (some (Slot.val (.str other))), (some (Slot.val (odd))), (some (Slot.val (.lst [.tup [.str one, .str other], .tup [.str other, .str one], .tup [.non, .str one], .tup [.str one, .non], .tup [.non, .non], .tup [odd, .str one], .tup [.str one, odd], .tup [odd, odd]]))), z7, z8, z9, z10, S4, d4.mono (by omega), fun ds => ?_⟩
  rw [forL]
  unfold env04 at l1 l2
  simp only [m_law_2, env04, Int.ofNat_lt, Int.ofNat_le, bind_ok, bind_exc, bind_stuck, sizeLine_eq, fMod_i, fFdiv_i, fMul_i, fMul_i1, fMul_i2, fm0, fm1, fAdd_i, fSub_i, fPow_i, fAdd_l, fAdd_t, fAdd_s, fLt_i, fLe_i, fGt_i, fGe_i, evO, resW, evR, bPrim, bC, bVar, tTru, tBool, tNotB, tAndB, tOrB, bAnd, bOr, bNot, bIf, wIf, evX, bTup, wLst, wPrim, wVal, eFrz, wCall, sOk, sRet, sSet, sIf, sSeq, sDrop, sPar, evW, setAll, Tg.asg, Tg.asgs, mMut, sPutL, bGet, sPutD, wDisp, ePub, bIxL, sPutS, mChk, mInt, D.isStr, D.isInt, D.tru, fLen_l, fLen_t, List.length_map, iVal, itemsD, iRange, plainS, wipeE, backE, wComp, wCompB, List.all_cons, List.all_nil, Slot.isVal, Bool.and_true, Bool.true_and, Bool.and_self, fsem, env0, fill, wMove, Slot.frz, List.getElem?_cons_zero, List.getElem?_cons_succ, List.set_cons_zero, List.set_cons_succ, List.map_cons, List.map_nil, List.cons_append, List.nil_append, List.reduceReplicate, Option.getD_some, List.length_cons, List.length_nil, List.getD_cons_zero, List.getD_cons_succ, Nat.reduceAdd, Nat.reduceSub, Option.map_some, if_true, if_false, ite_true, ite_false, Bool.false_eq_true, reduceIte, Nat.reduceLeDiff, Nat.reduceEqDiff, Int.reduceEq, Int.reduceNe, Int.reduceLT, Int.reduceLE, Int.reduceNeg, Int.reducePow, ne_eq, not_false_eq_true, decide_true, decide_false, true_and, and_true, true_or, or_true, and_self, Bool.not_true, Bool.not_false, reduceCtorEq, e1, e2, e3, fo, sFor]
  rw [l1]
  simp only [Int.ofNat_lt, Int.ofNat_le, bind_ok, bind_exc, bind_stuck, sizeLine_eq, fMod_i, fFdiv_i, fMul_i, fMul_i1, fMul_i2, fm0, fm1, fAdd_i, fSub_i, fPow_i, fAdd_l, fAdd_t, fAdd_s, fLt_i, fLe_i, fGt_i, fGe_i, evO, resW, evR, bPrim, bC, bVar, tTru, tBool, tNotB, tAndB, tOrB, bAnd, bOr, bNot, bIf, wIf, evX, bTup, wLst, wPrim, wVal, eFrz, wCall, sOk, sRet, sSet, sIf, sSeq, sDrop, sPar, evW, setAll, Tg.asg, Tg.asgs, mMut, sPutL, bGet, sPutD, wDisp, ePub, bIxL, sPutS, mChk, mInt, D.isStr, D.isInt, D.tru, fLen_l, fLen_t, List.length_map, iVal, itemsD, iRange, plainS, wipeE, backE, wComp, wCompB, List.all_cons, List.all_nil, Slot.isVal, Bool.and_true, Bool.true_and, Bool.and_self, fsem, env0, fill, wMove, Slot.frz, List.getElem?_cons_zero, List.getElem?_cons_succ, List.set_cons_zero, List.set_cons_succ, List.map_cons, List.map_nil, List.cons_append, List.nil_append, List.reduceReplicate, Option.getD_some, List.length_cons, List.length_nil, List.getD_cons_zero, List.getD_cons_succ, Nat.reduceAdd, Nat.reduceSub, Option.map_some, if_true, if_false, ite_true, ite_false, Bool.false_eq_true, reduceIte, Nat.reduceLeDiff, Nat.reduceEqDiff, Int.reduceEq, Int.reduceNe, Int.reduceLT, Int.reduceLE, Int.reduceNeg, Int.reducePow, ne_eq, not_false_eq_true, decide_true, decide_false, true_and, and_true, true_or, or_true, and_self, Bool.not_true, Bool.not_false, reduceCtorEq, mn, mx, rg]
  rw [l2]
  simp only [Int.ofNat_lt, Int.ofNat_le, bind_ok, bind_exc, bind_stuck, sizeLine_eq, fMod_i, fFdiv_i, fMul_i, fMul_i1, fMul_i2, fm0, fm1, fAdd_i, fSub_i, fPow_i, fAdd_l, fAdd_t, fAdd_s, fLt_i, fLe_i, fGt_i, fGe_i, evO, resW, evR, bPrim, bC, bVar, tTru, tBool, tNotB, tAndB, tOrB, bAnd, bOr, bNot, bIf, wIf, evX, bTup, wLst, wPrim, wVal, eFrz, wCall, sOk, sRet, sSet, sIf, sSeq, sDrop, sPar, evW, setAll, Tg.asg, Tg.asgs, mMut, sPutL, bGet, sPutD, wDisp, ePub, bIxL, sPutS, mChk, mInt, D.isStr, D.isInt, D.tru, fLen_l, fLen_t, List.length_map, iVal, itemsD, iRange, plainS, wipeE, backE, wComp, wCompB, List.all_cons, List.all_nil, Slot.isVal, Bool.and_true, Bool.true_and, Bool.and_self, fsem, env0, fill, wMove, Slot.frz, List.getElem?_cons_zero, List.getElem?_cons_succ, List.set_cons_zero, List.set_cons_succ, List.map_cons, List.map_nil, List.cons_append, List.nil_append, List.reduceReplicate, Option.getD_some, List.length_cons, List.length_nil, List.getD_cons_zero, List.getD_cons_succ, Nat.reduceAdd, Nat.reduceSub, Option.map_some, if_true, if_false, ite_true, ite_false, Bool.false_eq_true, reduceIte, Nat.reduceLeDiff, Nat.reduceEqDiff, Int.reduceEq, Int.reduceNe, Int.reduceLT, Int.reduceLE, Int.reduceNeg, Int.reducePow, ne_eq, not_false_eq_true, decide_true, decide_false, true_and, and_true, true_or, or_true, and_self, Bool.not_true, Bool.not_false, reduceCtorEq]
theorem Dr.begin (ns : List Int) (h : ns.length ≤ 63) : Dr 0 [.dict (drKv (ns ++ [0]) 0 0 0)] :=
  ⟨ns ++ [0], 0, 0, 0, [], rfl, by simp, by simp; omega, Int.le_refl _, Int.le_refl _, Int.le_refl _, Int.le_refl _, Int.le_refl _⟩
theorem law_ok (ns : List Int) (hn : ns.length ≤ 63) : ∃ S, F_law [.lst (ns.map .int)] [] = .ok (.val (.bl true)) [] S := by
  obtain ⟨m, hm, em⟩ : ∃ m : Nat, m ≤ 30 ∧ fMin [.int 30, .int ((ns.length : Nat) : Int)] = some (.int (m : Nat)) := by
    by_cases q : ((ns.length : Nat) : Int) < 30
    · exact ⟨ns.length, by omega, by show some (D.int (if _ then _ else _)) = _; rw [if_pos q]⟩
    · exact ⟨30, by omega, by show some (D.int (if _ then _ else _)) = _; rw [if_neg q]; rfl⟩
  have b := begin_ok ns hn
  have r1 : range1 [.int ((m : Nat) + 1)] = some (rangeD 0 (m + 1) 1) := range1_ok (m + 1) (by omega)
  obtain ⟨e', S', h1, x2, x3, x4, x5, x6, x7, x8, x9, x10, h2, rfl⟩ := forL_rng (t := .nm 2) (m := m_law_2) (fun j e S' => ∃ x2 x3 x4 x5 x6 x7 x8 x9 x10, Dr (100 * j) S' ∧ e = env04 (ns.map .int) x2 x3 x4 x5 x6 x7 x8 x9 x10) (g := fun i => .int (i : Nat)) (m + 1) 0 (env04 (ns.map .int) none none none none none none none none none) [.dict (drKv (ns ++ [0]) 0 0 0)] ⟨_, _, _, _, _, _, _, _, _, Dr.begin ns hn, rfl⟩ fun j _ hj e S' hI => by
    obtain ⟨x2, x3, x4, x5, x6, x7, x8, x9, x10, k1, rfl⟩ := hI
    obtain ⟨y2, y3, y4, y5, y6, y7, y8, y9, y10, S2, m1, m2⟩ := law_step (ns := ns.map .int) (j := j) (x2 := x2) (x3 := x3) (x4 := x4) (x5 := x5) (x6 := x6) (x7 := x7) (x8 := x8) (x9 := x9) (x10 := x10) k1 (by omega)
    exact ⟨_, S2, m2, y2, y3, y4, y5, y6, y7, y8, y9, y10, m1.mono (by omega), rfl⟩
  rw [← rangeD_up] at h1
  refine ⟨S', ?_⟩
  unfold env04 at h1
  simp only [F_law, m_law, Int.ofNat_lt, Int.ofNat_le, bind_ok, bind_exc, bind_stuck, sizeLine_eq, fMod_i, fFdiv_i, fMul_i, fMul_i1, fMul_i2, fm0, fm1, fAdd_i, fSub_i, fPow_i, fAdd_l, fAdd_t, fAdd_s, fLt_i, fLe_i, fGt_i, fGe_i, evO, resW, evR, bPrim, bC, bVar, tTru, tBool, tNotB, tAndB, tOrB, bAnd, bOr, bNot, bIf, wIf, evX, bTup, wLst, wPrim, wVal, eFrz, wCall, sOk, sRet, sSet, sIf, sSeq, sDrop, sPar, evW, setAll, Tg.asg, Tg.asgs, mMut, sPutL, bGet, sPutD, wDisp, ePub, bIxL, sPutS, mChk, mInt, D.isStr, D.isInt, D.tru, fLen_l, fLen_t, List.length_map, iVal, itemsD, iRange, plainS, wipeE, backE, wComp, wCompB, List.all_cons, List.all_nil, Slot.isVal, Bool.and_true, Bool.true_and, Bool.and_self, fsem, env0, fill, wMove, Slot.frz, List.getElem?_cons_zero, List.getElem?_cons_succ, List.set_cons_zero, List.set_cons_succ, List.map_cons, List.map_nil, List.cons_append, List.nil_append, List.reduceReplicate, Option.getD_some, List.length_cons, List.length_nil, List.getD_cons_zero, List.getD_cons_succ, Nat.reduceAdd, Nat.reduceSub, Option.map_some, if_true, if_false, ite_true, ite_false, Bool.false_eq_true, reduceIte, Nat.reduceLeDiff, Nat.reduceEqDiff, Int.reduceEq, Int.reduceNe, Int.reduceLT, Int.reduceLE, Int.reduceNeg, Int.reducePow, ne_eq, not_false_eq_true, decide_true, decide_false, true_and, and_true, true_or, or_true, and_self, Bool.not_true, Bool.not_false, reduceCtorEq, b, em, r1, sFor]
  rw [h1]
  simp only [Int.ofNat_lt, Int.ofNat_le, bind_ok, bind_exc, bind_stuck, sizeLine_eq, fMod_i, fFdiv_i, fMul_i, fMul_i1, fMul_i2, fm0, fm1, fAdd_i, fSub_i, fPow_i, fAdd_l, fAdd_t, fAdd_s, fLt_i, fLe_i, fGt_i, fGe_i, evO, resW, evR, bPrim, bC, bVar, tTru, tBool, tNotB, tAndB, tOrB, bAnd, bOr, bNot, bIf, wIf, evX, bTup, wLst, wPrim, wVal, eFrz, wCall, sOk, sRet, sSet, sIf, sSeq, sDrop, sPar, evW, setAll, Tg.asg, Tg.asgs, mMut, sPutL, bGet, sPutD, wDisp, ePub, bIxL, sPutS, mChk, mInt, D.isStr, D.isInt, D.tru, fLen_l, fLen_t, List.length_map, iVal, itemsD, iRange, plainS, wipeE, backE, wComp, wCompB, List.all_cons, List.all_nil, Slot.isVal, Bool.and_true, Bool.true_and, Bool.and_self, fsem, env0, fill, wMove, Slot.frz, List.getElem?_cons_zero, List.getElem?_cons_succ, List.set_cons_zero, List.set_cons_succ, List.map_cons, List.map_nil, List.cons_append, List.nil_append, List.reduceReplicate, Option.getD_some, List.length_cons, List.length_nil, List.getD_cons_zero, List.getD_cons_succ, Nat.reduceAdd, Nat.reduceSub, Option.map_some, if_true, if_false, ite_true, ite_false, Bool.false_eq_true, reduceIte, Nat.reduceLeDiff, Nat.reduceEqDiff, Int.reduceEq, Int.reduceNe, Int.reduceLT, Int.reduceLE, Int.reduceNeg, Int.reducePow, ne_eq, not_false_eq_true, decide_true, decide_false, true_and, and_true, true_or, or_true, and_self, Bool.not_true, Bool.not_false, reduceCtorEq]

end TM.K04
open PySem PySem.W PyProof.Rows
open TM TM.K04
set_option maxRecDepth 100000 in
set_option maxHeartbeats 0 in
theorem PySem.Challenge.cw_treemerge_k04_places_between_places_holds : PySem.Challenge.rw_treemerge_k04_places_between_places.Holds := by
  w_on; o_law; k_head; (case hw => w_witness2)
  k_fill
  refine law_walk (l := PySem.Challenge.rw_treemerge_k04_places_between_places) (n := 63) (k := 6) (x := "script") (sem := F_law) rfl (by decide) rfl ⟨rfl, by decide, by decide⟩ (fun w h Y => PySem.W.kIn_of Y) ?F law_ok
  case F =>
    intro w mg fa h KX G hmg
    refine' all_of KX G hmg ?x1__law_begin ?x2__law_begin ?x3__law_begin ?x4__law_begin ?x1__law_mixed ?x2__law_mixed ?x3__law_mixed ?x4__law_mixed ?x1__law_next ?x2__law_next ?x3__law_next ?x4__law_next ?x1__law_figures ?x2__law_figures ?x3__law_figures ?x4__law_figures ?x1__law_place ?x2__law_place ?x3__law_place ?x4__law_place ?x1__law_near ?x2__law_near ?x3__law_near ?x4__law_near ?x1__law_is_place ?x2__law_is_place ?x3__law_is_place ?x4__law_is_place ?x1_is_word ?x2_is_word ?x3_is_word ?x4_is_word ?x5_is_word ?x1_is_place ?x2_is_place ?x3_is_place ?x4_is_place ?x1_next_place ?x2_next_place ?x3_next_place ?x4_next_place ?x1_between ?x2_between ?x3_between ?x4_between ?x6_between ?x1__law_said ?x2__law_said ?x3__law_said ?x4__law_said ?x1__law_number ?x2__law_number ?x3__law_number ?x4__law_number ?x1__law_fitting ?x2__law_fitting ?x3__law_fitting ?x4__law_fitting ?x1__law_due ?x2__law_due ?x3__law_due ?x4__law_due ?x1__law_right ?x2__law_right ?x3__law_right ?x4__law_right ?x1_law ?x2_law ?x3_law ?x4_law ?z_len ?z_range ?z_str ?z_isinstance ?z_all ?z_int ?z_min ?z_max ?v_FIGURES ?v_MOST_FIGURES ?y_BadPlace ?y_NoRoom ?y_MergeError ?y_Refused ?y_BadChoice ?y_BadDeeds ?y_BadDocument ?y_BadLine ?y_BadLines ?y_BadName ?y_BadOutcome ?y_BadSides ?y_BadText ?y_Busy ?y_Faulty ?y_NothingUnderWay ?q_BadPlace ?s_BadPlace ?q_NoRoom ?s_NoRoom ?i_BadPlace ?i_NoRoom ?w_tk_MergeError_Refused_BadPlace ?w_tk_MergeError_Refused_NoRoom ?w_ti_BadChoice_BadDeeds_BadDocument_BadLine_BadLines_BadName_BadOutcome_BadSides_BadText_BadPlace ?w_ti_BadChoice_BadDeeds_BadDocument_BadLine_BadLines_BadName_BadOutcome_BadSides_BadText_NoRoom ?w_ti_Busy_Faulty_NothingUnderWay_BadPlace ?w_ti_Busy_Faulty_NothingUnderWay_NoRoom ?w_ti_BadPlace_BadPlace ?w_ti_BadPlace_NoRoom ?w_ti_NoRoom_BadPlace ?w_ti_NoRoom_NoRoom
    (case x1__law_begin => k_is)
    (case x2__law_begin => k_is)
    (case x3__law_begin => k_is)
    (case x4__law_begin => k_is)
    (case x1__law_mixed => k_is)
    (case x2__law_mixed => k_is)
    (case x3__law_mixed => k_is)
    (case x4__law_mixed => k_is)
    (case x1__law_next => k_is)
    (case x2__law_next => k_is)
    (case x3__law_next => k_is)
    (case x4__law_next => k_is)
    (case x1__law_figures => k_is)
    (case x2__law_figures => k_is)
    (case x3__law_figures => k_is)
    (case x4__law_figures => k_is)
    (case x1__law_place => k_is)
    (case x2__law_place => k_is)
    (case x3__law_place => k_is)
    (case x4__law_place => k_is)
    (case x1__law_near => k_is)
    (case x2__law_near => k_is)
    (case x3__law_near => k_is)
    (case x4__law_near => k_is)
    (case x1__law_is_place => k_is)
    (case x2__law_is_place => k_is)
    (case x3__law_is_place => k_is)
    (case x4__law_is_place => k_is)
    (case x1_is_word => k_is)
    (case x2_is_word => k_is)
    (case x3_is_word => k_is)
    (case x4_is_word => k_is)
    (case x5_is_word => exact dfl_mk (List.cons_ne_nil _ _) (by k_is) rfl (.cons ⟨_, rfl⟩ (.cons ⟨_, rfl⟩ .nil)))
    (case x1_is_place => k_is)
    (case x2_is_place => k_is)
    (case x3_is_place => k_is)
    (case x4_is_place => k_is)
    (case x1_next_place => k_is)
    (case x2_next_place => k_is)
    (case x3_next_place => k_is)
    (case x4_next_place => k_is)
    (case x1_between => k_is)
    (case x2_between => k_is)
    (case x3_between => k_is)
    (case x4_between => k_is)
    (case x6_between => exact .inr ⟨_, rfl, (List.forall_mem_cons.mpr ⟨⟨_, by k_is, rfl⟩, (List.forall_mem_cons.mpr ⟨⟨_, by k_is, rfl⟩, (fun _ h => by cases h)⟩)⟩)⟩)
    (case x1__law_said => k_is)
    (case x2__law_said => k_is)
    (case x3__law_said => k_is)
    (case x4__law_said => k_is)
    (case x1__law_number => k_is)
    (case x2__law_number => k_is)
    (case x3__law_number => k_is)
    (case x4__law_number => k_is)
    (case x1__law_fitting => k_is)
    (case x2__law_fitting => k_is)
    (case x3__law_fitting => k_is)
    (case x4__law_fitting => k_is)
    (case x1__law_due => k_is)
    (case x2__law_due => k_is)
    (case x3__law_due => k_is)
    (case x4__law_due => k_is)
    (case x1__law_right => k_is)
    (case x2__law_right => k_is)
    (case x3__law_right => k_is)
    (case x4__law_right => k_is)
    (case x1_law => k_is)
    (case x2_law => k_is)
    (case x3_law => k_is)
    (case x4_law => k_is)
    (case z_len => k_is)
    (case z_range => k_is)
    (case z_str => k_is)
    (case z_isinstance => k_is)
    (case z_all => k_is)
    (case z_int => k_is)
    (case z_min => k_is)
    (case z_max => k_is)
    (case v_FIGURES => k_is)
    (case v_MOST_FIGURES => k_is)
    (case y_BadPlace => k_is)
    (case y_NoRoom => k_is)
    (case y_MergeError => k_is)
    (case y_Refused => k_is)
    (case y_BadChoice => k_is)
    (case y_BadDeeds => k_is)
    (case y_BadDocument => k_is)
    (case y_BadLine => k_is)
    (case y_BadLines => k_is)
    (case y_BadName => k_is)
    (case y_BadOutcome => k_is)
    (case y_BadSides => k_is)
    (case y_BadText => k_is)
    (case y_Busy => k_is)
    (case y_Faulty => k_is)
    (case y_NothingUnderWay => k_is)
    (case q_BadPlace => k_exc)
    (case s_BadPlace => kts_exm)
    (case q_NoRoom => k_exc)
    (case s_NoRoom => kts_exm)
    (case i_BadPlace => exact ⟨by kts_exm, by k_is, ⟨_, by k_is⟩, by k_is, by k_is, by k_is, by k_is⟩)
    (case i_NoRoom => exact ⟨by kts_exm, by k_is, ⟨_, by k_is⟩, by k_is, by k_is, by k_is, by k_is⟩)
    (case w_tk_MergeError_Refused_BadPlace => kts_exm)
    (case w_tk_MergeError_Refused_NoRoom => kts_exm)
    (case w_ti_BadChoice_BadDeeds_BadDocument_BadLine_BadLines_BadName_BadOutcome_BadSides_BadText_BadPlace => kts_exm)
    (case w_ti_BadChoice_BadDeeds_BadDocument_BadLine_BadLines_BadName_BadOutcome_BadSides_BadText_NoRoom => kts_exm)
    (case w_ti_Busy_Faulty_NothingUnderWay_BadPlace => kts_exm)
    (case w_ti_Busy_Faulty_NothingUnderWay_NoRoom => kts_exm)
    (case w_ti_BadPlace_BadPlace => kts_exm)
    (case w_ti_BadPlace_NoRoom => kts_exm)
    (case w_ti_NoRoom_BadPlace => kts_exm)
    (case w_ti_NoRoom_NoRoom => kts_exm)
