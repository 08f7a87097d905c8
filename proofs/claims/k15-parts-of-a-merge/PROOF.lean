import PyProof.Rows.All
import Wide.All
import OpenK.AllK
import Wide.FinOn
import HandS.ForMost
import HandS.Exc
import HandS.Walk
import HandS.TupAny
import HandS.Wide
import HandS.Defaults
import HandS.Deep
import HandS.TupMul
import HandS.TupLe
import HandS.IsInst
import HandS.Style
import HandS.Flow
import HandS.WordsDict
import PyProof.ReprRoads
import HandS.More
import KE.GoesEnum
import HandS.Ends
import HandS.Words
import PyProof.ReprLen
import HandS.Text
import HandS.Dict
import HandS.TryOnly
import KE.KUnpackStar
import PySem.Challenge.RW_treemerge_k15_parts_of_a_merge
set_option Elab.async false
set_option linter.all false
set_option maxRecDepth 100000
set_option maxHeartbeats 4000000
namespace TM
open PySem PySem.Spec L2
open PyProof.Rows hiding St

/-! data, as trees -/
inductive D where
  | non | bl (b : Bool) | int (i : Int) | str (s : Str)
  | tup (ds : List D) | lst (ds : List D)
  | dct (ks : List Key) (vs : List D) | dctt (ks : List (List Key)) (vs : List D)
  | ref (n : Nat) | fn (x : Str) | cls (x : Str) | ty (n : String)
  | exn (c : Str) (ns : List Str) (vs : List D)
  deriving Inhabited

/-- a slot's content: frozen data, an owned list, an owned dict -/
inductive Slot where
  | val (d : D) | own (ds : List D) | ownd (kvs : List (Key × D)) | ownt (kvs : List (List Key × D))
abbrev Env := List (Option Slot)
inductive Ob where
  | dict (kvs : List (Key × D)) | inst (c : Str) (fs : List (Str × D)) | lst (ds : List D)
abbrev Sto := List Ob

def D.isInt : D → Bool
  | .int _ => true
  | _ => false
def D.isStr : D → Bool
  | .str _ => true
  | _ => false
/-- what may be a key: an int is in it, and a text -/
def keyish (ds : List D) : Bool := ds.any D.isInt && ds.any D.isStr

structure Gb where
  K : PySem.W.Frag
  mg : Str → Option Value

/-- an exception object that rests: its class, its own dict -/
def ExAt (cls : Value) (d : Option Addr) (a : Addr) : HO := .ext fun h => ∃ (oe : Obj) (vs : Array Value), h.get? a = some oe ∧ Zc cls d oe ∧ oe.data = .fields vs

mutual
inductive Rep (G : Gb) (rho : List Addr) (F : Hp) : V → D → Prop
  | non : Rep G rho F .non .non
  | bl (b : Bool) : Rep G rho F (.bl b) (.bl b)
  | int (i : Int) : Rep G rho F (.int i) (.int i)
  | str (x : Str) : Rep G rho F (.str x) (.str x)
  | tup {a : Addr} {xs : List V} {ds : List D} : SqT G.K F a xs → (keyish ds = true → F a = some (.tup xs)) → xs.length ≤ sizeLine → RepL G rho F xs ds → Rep G rho F (.ref a) (.tup ds)
  | lst {a : Addr} {xs : List V} {ds : List D} : SqL G.K F a xs → xs.length ≤ sizeLine → RepL G rho F xs ds → Rep G rho F (.ref a) (.lst ds)
  | dct {a : Addr} {kvs : List (Key × V)} {ks : List Key} {ds : List D} : F a = some (.dK kvs) → kvs.map (·.1) = ks → RepL G rho F (kvs.map (·.2)) ds → Rep G rho F (.ref a) (.dct ks ds)
  | dctt {a : Addr} {kvs : List (List Key × V)} {ks : List (List Key)} {ds : List D} : F a = some (.dT kvs) → kvs.map (·.1) = ks → RepL G rho F (kvs.map (·.2)) ds → Rep G rho F (.ref a) (.dctt ks ds)
  | ref {n : Nat} {a : Addr} : rho[n]? = some a → Rep G rho F (.ref a) (.ref n)
  | fn {x : Str} {a : Addr} : G.mg x = some (.ref a) → Rep G rho F (.ref a) (.fn x)
  | cls {x : Str} {a : Addr} : G.mg x = some (.ref a) → Rep G rho F (.ref a) (.cls x)
  | ty (n : String) : Rep G rho F (.ty n) (.ty n)
  | exn {c : Str} {C a da : Addr} {fs : List (Str × V)} {ns : List Str} {ds : List D} : G.mg c = some (.ref C) → F a = some (ExAt (.ref C) (some da) a) → F da = some (.xd fs) → fs.map (·.1) = ns → RepL G rho F (fs.map (·.2)) ds → Rep G rho F (.ref a) (.exn c ns ds)
  | exn0 {c : Str} {C a : Addr} : G.mg c = some (.ref C) → F a = some (ExAt (.ref C) none a) → Rep G rho F (.ref a) (.exn c [] [])
inductive RepL (G : Gb) (rho : List Addr) (F : Hp) : List V → List D → Prop
  | nil : RepL G rho F [] []
  | cons {v : V} {vs : List V} {d : D} {ds : List D} : Rep G rho F v d → RepL G rho F vs ds → RepL G rho F (v :: vs) (d :: ds)
end

/-- F is within F' -/
def Sub (F F' : Hp) : Prop := ∀ a o, F a = some o → F' a = some o
theorem Sub.refl (F : Hp) : Sub F F := fun _ _ h => h
theorem Sub.trans {F F1 F2 : Hp} (a : Sub F F1) (b : Sub F1 F2) : Sub F F2 := fun x o h => b x o (a x o h)
/-- rho is the beginning of rho' -/
def Pre (r r' : List Addr) : Prop := ∀ (n : Nat) (a : Addr), r[n]? = some a → r'[n]? = some a
theorem Pre.refl (r : List Addr) : Pre r r := fun _ _ h => h
theorem Pre.trans {r r1 r2 : List Addr} (a : Pre r r1) (b : Pre r1 r2) : Pre r r2 := fun n x h => b n x (a n x h)
theorem Pre.snoc (r : List Addr) (x : Addr) : Pre r (r ++ [x]) := fun n a h => by
  have := (List.getElem?_eq_some_iff.mp h).1
  rw [List.getElem?_append_left this]; exact h

section
variable {G : Gb} {rho rho' : List Addr} {F F' : Hp}
theorem sqT_mono {K : PySem.W.Frag} {a : Addr} {xs : List V} (s : Sub F F') (h : SqT K F a xs) : SqT K F' a xs := by
  rcases h with (h | ⟨o, h⟩) | h
  · exact .inl (.inl (s _ _ h))
  · exact .inl (.inr ⟨o, s _ _ h⟩)
  · exact .inr h
theorem sqL_mono {K : PySem.W.Frag} {a : Addr} {xs : List V} (s : Sub F F') (h : SqL K F a xs) : SqL K F' a xs := by
  rcases h with (h | ⟨o, h⟩) | h
  · exact .inl (.inl (s _ _ h))
  · exact .inl (.inr ⟨o, s _ _ h⟩)
  · exact .inr h
mutual
theorem Rep.mono (s : Sub F F') (p : Pre rho rho') : ∀ {v : V} {d : D}, Rep G rho F v d → Rep G rho' F' v d
  | _, _, .non => .non
  | _, _, .bl b => .bl b
  | _, _, .int i => .int i
  | _, _, .str x => .str x
  | _, _, .tup h k z l => .tup (sqT_mono s h) (fun q => s _ _ (k q)) z (RepL.mono s p l)
  | _, _, .lst h z l => .lst (sqL_mono s h) z (RepL.mono s p l)
  | _, _, .dct h e l => .dct (s _ _ h) e (RepL.mono s p l)
  | _, _, .dctt h e l => .dctt (s _ _ h) e (RepL.mono s p l)
  | _, _, .ref h => .ref (p _ _ h)
  | _, _, .fn h => .fn h
  | _, _, .cls h => .cls h
  | _, _, .ty n => .ty n
  | _, _, .exn h1 h2 h3 h4 l => .exn h1 (s _ _ h2) (s _ _ h3) h4 (RepL.mono s p l)
  | _, _, .exn0 h1 h2 => .exn0 h1 (s _ _ h2)
theorem RepL.mono (s : Sub F F') (p : Pre rho rho') : ∀ {vs : List V} {ds : List D}, RepL G rho F vs ds → RepL G rho' F' vs ds
  | _, _, .nil => .nil
  | _, _, .cons r l => .cons (Rep.mono s p r) (RepL.mono s p l)
end
theorem RepL.length : ∀ {vs : List V} {ds : List D}, RepL G rho F vs ds → vs.length = ds.length
  | _, _, .nil => rfl
  | _, _, .cons _ l => congrArg (· + 1) (RepL.length l)
theorem RepL.get : ∀ {vs : List V} {ds : List D} {i : Nat} {d : D}, RepL G rho F vs ds → ds[i]? = some d → ∃ v, vs[i]? = some v ∧ Rep G rho F v d
  | _, _, _, _, .nil, e => by simp at e
  | _, _, 0, _, .cons r _, e => by simp at e; subst e; exact ⟨_, rfl, r⟩
  | _, _, i + 1, d, .cons _ l, e => by
    obtain ⟨v, h1, h2⟩ := RepL.get (i := i) (d := d) l (by simpa using e)
    exact ⟨v, by simpa using h1, h2⟩
theorem RepL.getV : ∀ {vs : List V} {ds : List D} {i : Nat} {v : V}, RepL G rho F vs ds → vs[i]? = some v → ∃ d, ds[i]? = some d ∧ Rep G rho F v d
  | _, _, _, _, .nil, e => by simp at e
  | _, _, 0, _, .cons r _, e => by simp at e; subst e; exact ⟨_, rfl, r⟩
  | _, _, i + 1, v, .cons _ l, e => by
    obtain ⟨d, h1, h2⟩ := RepL.getV (i := i) (v := v) l (by simpa using e)
    exact ⟨d, by simpa using h1, h2⟩
theorem RepL.append : ∀ {vs ws : List V} {ds es : List D}, RepL G rho F vs ds → RepL G rho F ws es → RepL G rho F (vs ++ ws) (ds ++ es)
  | _, _, _, _, .nil, s => s
  | _, _, _, _, .cons r l, s => .cons r (RepL.append l s)
theorem RepL.take : ∀ {vs : List V} {ds : List D} (n : Nat), RepL G rho F vs ds → RepL G rho F (vs.take n) (ds.take n)
  | _, _, 0, _ => .nil
  | _, _, _ + 1, .nil => .nil
  | _, _, n + 1, .cons r l => .cons r (RepL.take n l)
theorem RepL.drop : ∀ {vs : List V} {ds : List D} (n : Nat), RepL G rho F vs ds → RepL G rho F (vs.drop n) (ds.drop n)
  | _, _, 0, r => r
  | _, _, _ + 1, .nil => .nil
  | _, _, n + 1, .cons _ l => RepL.drop n l
theorem RepL.set {v : V} {d : D} (r : Rep G rho F v d) : ∀ {vs : List V} {ds : List D} (i : Nat), RepL G rho F vs ds → RepL G rho F (vs.set i v) (ds.set i d)
  | _, _, _, .nil => .nil
  | _, _, 0, .cons _ l => .cons r l
  | _, _, i + 1, .cons q l => .cons q (RepL.set r i l)
theorem RepL.eraseIdx : ∀ {vs : List V} {ds : List D} (i : Nat), RepL G rho F vs ds → RepL G rho F (vs.eraseIdx i) (ds.eraseIdx i)
  | _, _, _, .nil => .nil
  | _, _, 0, .cons _ l => l
  | _, _, i + 1, .cons q l => .cons q (RepL.eraseIdx i l)
theorem RepL.reverse : ∀ {vs : List V} {ds : List D}, RepL G rho F vs ds → RepL G rho F vs.reverse ds.reverse
  | _, _, .nil => .nil
  | _, _, .cons r l => by
    rw [List.reverse_cons, List.reverse_cons]
    exact (RepL.reverse l).append (.cons r .nil)
theorem RepL.of_map {α : Type} (f : α → V) (g : α → D) (h : ∀ a, Rep G rho F (f a) (g a)) : ∀ l : List α, RepL G rho F (l.map f) (l.map g)
  | [] => .nil
  | a :: l => .cons (h a) (RepL.of_map f g h l)
end
end TM
namespace TM
open PySem PySem.Spec L2
open PyProof.Rows hiding St

/-- what is to stand: objects that no one may touch; what is frozen at first, the tracked objects' places -/
structure Ent where
  Pr : Addr → HO → Prop
  F : Hp
  rho : List Addr

def ObRep (G : Gb) (rho : List Addr) (F H : Hp) (a : Addr) : Ob → Prop
  | .dict kvs => ∃ vs : List (Key × V), H a = some (.dK vs) ∧ vs.map (·.1) = kvs.map (·.1) ∧ RepL G rho F (vs.map (·.2)) (kvs.map (·.2))
  | .inst c fs => ∃ (C dx : Addr) (vs : List (Str × V)), H a = some (.ins C dx vs) ∧ G.mg c = some (.ref C) ∧ vs.map (·.1) = fs.map (·.1) ∧ RepL G rho F (vs.map (·.2)) (fs.map (·.2))
  | .lst ds => ∃ xs, H a = some (.lst xs) ∧ xs.length ≤ sizeLine ∧ RepL G rho F xs ds

def Slot.isVal : Slot → Bool
  | .val _ => true
  | _ => false
def Slot.frz : Slot → D
  | .val d => d
  | .own ds => .lst ds
  | .ownd kvs => .dct (kvs.map (·.1)) (kvs.map (·.2))
  | .ownt kvs => .dctt (kvs.map (·.1)) (kvs.map (·.2))

/-- the object of an owned slot stands at a -/
def OwnAt (G : Gb) (rho : List Addr) (F H : Hp) (a : Addr) : Slot → Prop
  | .val _ => False
  | .own ds => ∃ xs, H a = some (.lst xs) ∧ xs.length ≤ sizeLine ∧ RepL G rho F xs ds
  | .ownd kvs => ∃ vs : List (Key × V), H a = some (.dK vs) ∧ vs.map (·.1) = kvs.map (·.1) ∧ RepL G rho F (vs.map (·.2)) (kvs.map (·.2))
  | .ownt kvs => ∃ vs : List (List Key × V), H a = some (.dT vs) ∧ vs.map (·.1) = kvs.map (·.1) ∧ RepL G rho F (vs.map (·.2)) (kvs.map (·.2))

structure R (G : Gb) (ent : Ent) (e : Env) (S : Sto) (σ : St) (H F : Hp) (rho : List Addr) : Prop where
  len : e.length = σ.length
  sub : Sub F H
  val : ∀ (i : Nat) (d : D), e[i]? = some (some (.val d)) → ∃ v, σ[i]? = some (some v) ∧ Rep G rho F v d
  own : ∀ (i : Nat) (s : Slot), e[i]? = some (some s) → s.isVal = false → ∃ a, σ[i]? = some (some (.ref a)) ∧ OwnAt G rho F H a s ∧ F a = none ∧ (∀ o, ¬ ent.Pr a o) ∧ a ∉ rho
  sep : ∀ (i j : Nat) (s t : Slot) (a : Addr), e[i]? = some (some s) → s.isVal = false → e[j]? = some (some t) → t.isVal = false → σ[i]? = some (some (.ref a)) → σ[j]? = some (some (.ref a)) → i = j
  slen : S.length = rho.length
  sto : ∀ (n : Nat) (o : Ob) (a : Addr), S[n]? = some o → rho[n]? = some a → ObRep G rho F H a o ∧ F a = none
  nod : rho.Nodup
  keep : ∀ a o, ent.Pr a o → H a = some o ∧ F a = none ∧ a ∉ rho
  sub0 : Sub ent.F F
  pre0 : Pre ent.rho rho

/-- only new objects, all of them frozen -/
structure Grow (H F H' F' : Hp) : Prop where
  old : ∀ a, H a ≠ none → H' a = H a ∧ F' a = F a
  new : ∀ a, H a = none → F' a = H' a
theorem Grow.refl {H F : Hp} (s : Sub F H) : Grow H F H F := ⟨fun _ _ => ⟨rfl, rfl⟩, fun a h => by
  cases e : F a with
  | none => exact h.symm
  | some o => rw [s a o e] at h; cases h⟩
theorem Grow.trans {H F H1 F1 H2 F2 : Hp} (a : Grow H F H1 F1) (b : Grow H1 F1 H2 F2) : Grow H F H2 F2 := by
  refine ⟨fun x h => ?_, fun x h => ?_⟩
  · have h1 : H1 x ≠ none := by rw [(a.old x h).1]; exact h
    exact ⟨(b.old x h1).1.trans (a.old x h).1, (b.old x h1).2.trans (a.old x h).2⟩
  · by_cases h1 : H1 x = none
    · exact b.new x h1
    · rw [(b.old x h1).1, (b.old x h1).2]; exact a.new x h
theorem Grow.alloc {H F : Hp} {p : Addr} {o : HO} (s : Sub F H) (h : H p = none) : Grow H F (upd H p o) (upd F p o) := by
  refine ⟨fun a ha => ?_, fun a ha => ?_⟩
  · have : a ≠ p := fun e => ha (e ▸ h)
    exact ⟨upd_ne this, upd_ne this⟩
  · by_cases e : a = p
    · subst e; rw [upd_same, upd_same]
    · rw [upd_ne e, upd_ne e, ha]
      cases q : F a with
      | none => rfl
      | some x => rw [s a x q] at ha; cases ha
theorem Grow.sub {H F H' F' : Hp} (g : Grow H F H' F') (s : Sub F H) : Sub F F' := fun a o h => by
  rw [(g.old a (by rw [s a o h]; simp)).2]; exact h
theorem Grow.subH {H F H' F' : Hp} (g : Grow H F H' F') : Sub H H' := fun a o h => by
  rw [(g.old a (by rw [h]; simp)).1]; exact h
theorem Grow.ok {H F H' F' : Hp} (g : Grow H F H' F') (s : Sub F H) : Sub F' H' := fun a o h => by
  by_cases e : H a = none
  · rw [← g.new a e]; exact h
  · have := g.old a e
    rw [this.2] at h; rw [this.1]; exact s a o h

section
variable {G : Gb} {ent : Ent} {e : Env} {S : Sto} {σ : St} {H F H' F' : Hp} {rho rho' : List Addr}
theorem ObRep.mono {a : Addr} (s : Sub F F') (p : Pre rho rho') (h : H' a = H a) : ∀ {o : Ob}, ObRep G rho F H a o → ObRep G rho' F' H' a o
  | .dict _, ⟨vs, h1, h2, h3⟩ => ⟨vs, h.trans h1, h2, h3.mono s p⟩
  | .inst _ _, ⟨C, dx, vs, h1, h2, h3, h4⟩ => ⟨C, dx, vs, h.trans h1, h2, h3, h4.mono s p⟩
  | .lst _, ⟨xs, h1, z, h2⟩ => ⟨xs, h.trans h1, z, h2.mono s p⟩
theorem OwnAt.mono {a : Addr} (s : Sub F F') (p : Pre rho rho') (h : H' a = H a) : ∀ {o : Slot}, OwnAt G rho F H a o → OwnAt G rho' F' H' a o
  | .val _, h => h
  | .own _, ⟨xs, h1, z, h2⟩ => ⟨xs, h.trans h1, z, h2.mono s p⟩
  | .ownd _, ⟨xs, h1, z, h2⟩ => ⟨xs, h.trans h1, z, h2.mono s p⟩
  | .ownt _, ⟨xs, h1, z, h2⟩ => ⟨xs, h.trans h1, z, h2.mono s p⟩
theorem OwnAt.isob {a : Addr} : ∀ {o : Slot}, OwnAt G rho F H a o → H a ≠ none
  | .val _, h => h.elim
  | .own _, ⟨xs, h1, _⟩ => by rw [h1]; simp
  | .ownd _, ⟨xs, h1, _⟩ => by rw [h1]; simp
  | .ownt _, ⟨xs, h1, _⟩ => by rw [h1]; simp
theorem ObRep.isob {a : Addr} : ∀ {o : Ob}, ObRep G rho F H a o → H a ≠ none
  | .dict _, ⟨xs, h1, _⟩ => by rw [h1]; simp
  | .inst _ _, ⟨_, _, _, h1, _⟩ => by rw [h1]; simp
  | .lst _, ⟨_, h1, _⟩ => by rw [h1]; simp
theorem R.rhoSome (r : R G ent e S σ H F rho) {a : Addr} (h : a ∈ rho) : H a ≠ none ∧ F a = none := by
  obtain ⟨n, hn⟩ := List.getElem?_of_mem h
  have hl : n < S.length := by rw [r.slen]; exact (List.getElem?_eq_some_iff.mp hn).1
  obtain ⟨q, f⟩ := r.sto n S[n] a (by simp [hl]) hn
  exact ⟨q.isob, f⟩
/-- new frozen objects -/
theorem R.grow (r : R G ent e S σ H F rho) (g : Grow H F H' F') : R G ent e S σ H' F' rho where
  len := r.len
  sub := g.ok r.sub
  val := fun i d h => let ⟨v, h1, h2⟩ := r.val i d h; ⟨v, h1, h2.mono (g.sub r.sub) (Pre.refl _)⟩
  own := fun i s h hs => by
    obtain ⟨a, h1, h2, h3, h4, h5⟩ := r.own i s h hs
    have q := g.old a h2.isob
    exact ⟨a, h1, h2.mono (g.sub r.sub) (Pre.refl _) q.1, q.2.trans h3, h4, h5⟩
  sep := r.sep
  slen := r.slen
  sto := fun n o a h1 h2 => by
    obtain ⟨q, f⟩ := r.sto n o a h1 h2
    have z := g.old a q.isob
    exact ⟨q.mono (g.sub r.sub) (Pre.refl _) z.1, z.2.trans f⟩
  nod := r.nod
  keep := fun a o h => by
    obtain ⟨h1, h2, h3⟩ := r.keep a o h
    exact ⟨g.subH a o h1, by rw [(g.old a (by rw [h1]; simp)).2]; exact h2, h3⟩
  sub0 := r.sub0.trans (g.sub r.sub)
  pre0 := r.pre0
/-- the start of a def -/
theorem R.start {ds : List D} {vs : List V} {n : Nat} (hsub : Sub F H) (hr : RepL G rho F vs ds) (hl : S.length = rho.length) (hs : ∀ (n : Nat) (o : Ob) (a : Addr), S[n]? = some o → rho[n]? = some a → ObRep G rho F H a o ∧ F a = none) (nd : rho.Nodup) :
    R G ⟨fun a o => H a = some o ∧ F a = none ∧ a ∉ rho, F, rho⟩ (ds.map (fun d => some (.val d)) ++ List.replicate n none) S (vs.map some ++ List.replicate n none) H F rho where
  len := by simp [hr.length]
  sub := hsub
  val := fun i d h => by
    by_cases hi : i < ds.length
    · rw [List.getElem?_append_left (by simpa using hi), List.getElem?_map] at h
      cases q : ds[i]? with
      | none => rw [q] at h; cases h
      | some x =>
        rw [q] at h
        cases h
        obtain ⟨v, h1, h2⟩ := hr.get q
        refine ⟨v, ?_, h2⟩
        rw [List.getElem?_append_left (by simpa [hr.length] using hi), List.getElem?_map, h1]; rfl
    · rw [List.getElem?_append_right (by simpa using hi), List.getElem?_replicate] at h
      split at h <;> cases h
  own := fun i s h hv => by
    by_cases hi : i < ds.length
    · rw [List.getElem?_append_left (by simpa using hi), List.getElem?_map] at h
      cases q : ds[i]? with
      | none => rw [q] at h; cases h
      | some x => rw [q] at h; cases h; cases hv
    · rw [List.getElem?_append_right (by simpa using hi), List.getElem?_replicate] at h
      split at h <;> cases h
  sep := fun i j s t a h hv => by
    by_cases hi : i < ds.length
    · rw [List.getElem?_append_left (by simpa using hi), List.getElem?_map] at h
      cases q : ds[i]? with
      | none => rw [q] at h; cases h
      | some x => rw [q] at h; cases h; cases hv
    · rw [List.getElem?_append_right (by simpa using hi), List.getElem?_replicate] at h
      split at h <;> cases h
  slen := hl
  sto := hs
  nod := nd
  keep := fun a o h => h
  sub0 := Sub.refl _
  pre0 := Pre.refl _

/-- what a call promises of the heap: from (H, F, rho) to (H', F', rho') -/
structure Post (H F : Hp) (rho : List Addr) (H' F' : Hp) (rho' : List Addr) : Prop where
  sub : Sub F F'
  pre : Pre rho rho'
  keep : ∀ a o, H a = some o → F a = none → a ∉ rho → H' a = some o ∧ F' a = none ∧ a ∉ rho'
/-- the tracked objects, as they stand -/
structure StoOk (G : Gb) (S : Sto) (H F : Hp) (rho : List Addr) : Prop where
  sub : Sub F H
  len : S.length = rho.length
  sto : ∀ (n : Nat) (o : Ob) (a : Addr), S[n]? = some o → rho[n]? = some a → ObRep G rho F H a o ∧ F a = none
  nod : rho.Nodup
theorem R.sok (r : R G ent e S σ H F rho) : StoOk G S H F rho := ⟨r.sub, r.slen, r.sto, r.nod⟩
theorem R.post {H0 F0 : Hp} {rho0 : List Addr} (r : R G ⟨fun a o => H0 a = some o ∧ F0 a = none ∧ a ∉ rho0, F0, rho0⟩ e S σ H F rho) : Post H0 F0 rho0 H F rho := ⟨r.sub0, r.pre0, fun a o h1 h2 h3 => r.keep a o ⟨h1, h2, h3⟩⟩
/-- behind a call -/
theorem R.call {S' : Sto} (r : R G ent e S σ H F rho) (k : StoOk G S' H' F' rho') (p : Post H F rho H' F' rho') : R G ent e S' σ H' F' rho' where
  len := r.len
  sub := k.sub
  val := fun i d h => let ⟨v, h1, h2⟩ := r.val i d h; ⟨v, h1, h2.mono p.sub p.pre⟩
  own := fun i s h hs => by
    obtain ⟨a, h1, h2, h3, h4, h5⟩ := r.own i s h hs
    obtain ⟨o, ho⟩ := Option.ne_none_iff_exists'.mp h2.isob
    obtain ⟨q1, q2, q3⟩ := p.keep a o ho h3 h5
    exact ⟨a, h1, h2.mono p.sub p.pre (q1.trans ho.symm), q2, h4, q3⟩
  sep := r.sep
  slen := k.len
  sto := k.sto
  nod := k.nod
  keep := fun a o h => by
    obtain ⟨h1, h2, h3⟩ := r.keep a o h
    exact p.keep a o h1 h2 h3
  sub0 := r.sub0.trans p.sub
  pre0 := r.pre0.trans p.pre
/-- fewer objects are kept -/
theorem R.less {ent' : Ent} (r : R G ent e S σ H F rho) (h1 : ∀ a o, ent'.Pr a o → ent.Pr a o) (h2 : ent'.F = ent.F) (h3 : ent'.rho = ent.rho) : R G ent' e S σ H F rho where
  len := r.len
  sub := r.sub
  val := r.val
  own := fun i s h hs => let ⟨a, q1, q2, q3, q4, q5⟩ := r.own i s h hs; ⟨a, q1, q2, q3, fun o z => q4 o (h1 a o z), q5⟩
  sep := r.sep
  slen := r.slen
  sto := r.sto
  nod := r.nod
  keep := fun a o h => r.keep a o (h1 a o h)
  sub0 := by rw [h2]; exact r.sub0
  pre0 := by rw [h3]; exact r.pre0
theorem R.fresh (r : R G ent e S σ H F rho) {p : Addr} (h : H p = none) (o : HO) : ¬ ent.Pr p o := fun q => by
  rw [(r.keep p o q).1] at h; cases h
end
end TM
namespace TM
open PySem PySem.Spec L2
open PyProof.Rows hiding St

inductive Out (α : Type) where
  | ok (a : α) (e : Env) (S : Sto) | exc (x : D) (e : Env) (S : Sto) | stuck
def Out.bind {α β : Type} (o : Out α) (k : α → Env → Sto → Out β) : Out β :=
  match o with
  | .ok a e S => k a e S
  | .exc x e S => .exc x e S
  | .stuck => .stuck
abbrev Ex := Env → Sto → Out D
inductive Fl where
  | next | brk | cont | ret (w : Slot)
abbrev Sm := Env → Sto → Out Fl

/-- an exception in flight -/
def XRep (G : Gb) (rho : List Addr) (F : Hp) (cls : Value) (d : Option Addr) : D → Prop
  | .exn c ns vs => ∃ C, G.mg c = some (.ref C) ∧ cls = .ref C ∧ ((d = none ∧ ns = [] ∧ vs = []) ∨ ∃ (da : Addr) (fs : List (Str × V)), d = some da ∧ F da = some (.xd fs) ∧ fs.map (·.1) = ns ∧ RepL G rho F (fs.map (·.2)) vs)
  | _ => False

/-- what is wanted of an exception that leaves, in terms of data -/
def postX (G : Gb) (W : WX) (ent : Ent) (σ : St) (F : Hp) (rho : List Addr) (x : D) (e : Env) (S : Sto) : Prop :=
  ∀ (H' F' : Hp) (rho' : List Addr) (cls : Value) (d : Option Addr), R G ent e S σ H' F' rho' → Sub F F' → Pre rho rho' → XRep G rho' F' cls d x → W cls d σ H'
def postE (G : Gb) (W : WX) (ent : Ent) (σ : St) (F : Hp) (rho : List Addr) (Q : VK) : Out D → Prop
  | .ok d e S => ∀ (v : V) (H' F' : Hp) (rho' : List Addr), R G ent e S σ H' F' rho' → Sub F F' → Pre rho rho' → Rep G rho' F' v d → Q v H'
  | .exc x e S => postX G W ent σ F rho x e S
  | .stuck => False
def rdE (G : Gb) (W : WX) (ent : Ent) (m : Ex) : TE := fun σ H Q => ∃ (e : Env) (S : Sto) (F : Hp) (rho : List Addr), R G ent e S σ H F rho ∧ postE G W ent σ F rho Q (m e S)

theorem _root_.L2.PE.weak {X : Cx} {e : Expr} {t t' : TE} (h : PE X e t) (w : ∀ σ H Q, t' σ H Q → t σ H Q) : PE X e t' := ⟨fun pins s σ H Q I q => h.run pins s σ H Q I (w σ H Q q)⟩
theorem _root_.L2.PT.weak {X : Cx} {e : Expr} {t t' : TT} (h : PT X e t) (w : ∀ σ H Q, t' σ H Q → t σ H Q) : PT X e t' := ⟨fun pins s σ H Q I q => h.run pins s σ H Q I (w σ H Q q)⟩
theorem _root_.L2.PW.weak {X : Cx} {e : Expr} {t t' : TT} (h : PW X e t) (w : ∀ σ H Q, t' σ H Q → t σ H Q) : PW X e t' := ⟨fun wh pins s σ H Q I q => h.run wh pins s σ H Q I (w σ H Q q)⟩
theorem _root_.L2.PA.weak {X : Cx} {e : List Expr} {t t' : TA} (h : PA X e t) (w : ∀ σ H Q, t' σ H Q → t σ H Q) : PA X e t' := ⟨fun p pins s σ H Q I q => h.run p pins s σ H Q I (w σ H Q q)⟩
theorem _root_.L2.PS.weak {X : Cx} {e : Stmt} {t t' : TS} (h : PS X e t) (w : ∀ D σ H, t' D σ H → t D σ H) : PS X e t' := ⟨fun pins s σ H D I q => h.run pins s σ H D I (w D σ H q)⟩
theorem _root_.L2.PSs.weak {X : Cx} {e : List Stmt} {t t' : TS} (h : PSs X e t) (w : ∀ D σ H, t' D σ H → t D σ H) : PSs X e t' := ⟨fun pins s σ H D I q => h.run pins s σ H D I (w D σ H q)⟩
/-- one of two readings -/
theorem _root_.L2.PE.orr {X : Cx} {e : Expr} {t t' : TE} (h : PE X e t) (h' : PE X e t') : PE X e (fun σ H Q => t σ H Q ∨ t' σ H Q) := ⟨fun pins s σ H Q I q => q.elim (h.run pins s σ H Q I) (h'.run pins s σ H Q I)⟩
theorem _root_.L2.PI.orr {X : Cx} {g e : Expr} {t t' : TI} (h : PI X g e t) (h' : PI X g e t') : PI X g e (fun σ H Q => t σ H Q ∨ t' σ H Q) := ⟨fun pins s σ H Q I q => q.elim (h.run pins s σ H Q I) (h'.run pins s σ H Q I)⟩

/-! operands -/
inductive Opr where
  | sl (i : Nat) | ex (m : Ex)
abbrev Wd := Sum Nat D
def evO : List Opr → Env → Sto → Out (List Wd)
  | [], e, S => .ok [] e S
  | .sl i :: os, e, S => match e[i]? with
    | some (some _) => (evO os e S).bind fun ws e S => .ok (.inl i :: ws) e S
    | _ => .stuck
  | .ex m :: os, e, S => (m e S).bind fun d e S => (evO os e S).bind fun ws e S => .ok (.inr d :: ws) e S
def resW (e : Env) : List Wd → Option (List D)
  | [] => some []
  | .inl i :: ws => match e[i]? with
    | some (some s) => (resW e ws).map (s.frz :: ·)
    | _ => none
  | .inr d :: ws => (resW e ws).map (d :: ·)
def evR (os : List Opr) : Env → Sto → Out (List D) := fun e S => (evO os e S).bind fun ws e S => match resW e ws with
  | some ds => .ok ds e S
  | none => .stuck

def tO (G : Gb) (W : WX) (ent : Ent) : Opr → TE
  | .sl i => tVar i
  | .ex m => rdE G W ent m
def tOs (G : Gb) (W : WX) (ent : Ent) : List Opr → TA
  | [] => tNil
  | o :: os => tCons (tO G W ent o) (tOs G W ent os)

/-- a word of data, or a slot -/
inductive RepO (G : Gb) (σ : St) (rho : List Addr) (F : Hp) : List V → List Wd → Prop
  | nil : RepO G σ rho F [] []
  | sl {i : Nat} {v : V} {vs : List V} {ws : List Wd} : σ[i]? = some (some v) → RepO G σ rho F vs ws → RepO G σ rho F (v :: vs) (.inl i :: ws)
  | ex {d : D} {v : V} {vs : List V} {ws : List Wd} : Rep G rho F v d → RepO G σ rho F vs ws → RepO G σ rho F (v :: vs) (.inr d :: ws)
/-- frozen data, or an owned object that is only looked at -/
def RepB (G : Gb) (rho : List Addr) (F H : Hp) (v : V) (d : D) : Prop := Rep G rho F v d ∨ ∃ (a : Addr) (s : Slot), v = .ref a ∧ OwnAt G rho F H a s ∧ d = s.frz
inductive RepBL (G : Gb) (rho : List Addr) (F H : Hp) : List V → List D → Prop
  | nil : RepBL G rho F H [] []
  | cons {v : V} {d : D} {vs : List V} {ds : List D} : RepB G rho F H v d → RepBL G rho F H vs ds → RepBL G rho F H (v :: vs) (d :: ds)
theorem RepL.toB {G : Gb} {rho : List Addr} {F H : Hp} : ∀ {vs : List V} {ds : List D}, RepL G rho F vs ds → RepBL G rho F H vs ds
  | _, _, .nil => .nil
  | _, _, .cons r l => .cons (.inl r) (RepL.toB l)

section
variable {G : Gb} {W : WX} {ent : Ent} {e : Env} {S : Sto} {σ : St} {H F H' F' : Hp} {rho rho' : List Addr}
theorem R.look (r : R G ent e S σ H F rho) {i : Nat} {s : Slot} {v : V} (h : e[i]? = some (some s)) (hv : σ[i]? = some (some v)) : RepB G rho F H v s.frz := by
  by_cases q : s.isVal = true
  · cases s with
    | val d =>
      obtain ⟨v', h1, h2⟩ := r.val i d h
      rw [h1] at hv; cases hv; exact .inl h2
    | own _ => cases q
    | ownd _ => cases q
    | ownt _ => cases q
  · obtain ⟨a, h1, h2, _⟩ := r.own i s h (by simpa using q)
    rw [h1] at hv; cases hv
    exact .inr ⟨a, s, rfl, h2, rfl⟩
theorem R.there (r : R G ent e S σ H F rho) {i : Nat} {s : Slot} (h : e[i]? = some (some s)) : ∃ v, σ[i]? = some (some v) := by
  by_cases q : s.isVal = true
  · cases s with
    | val d => obtain ⟨v, h1, _⟩ := r.val i d h; exact ⟨v, h1⟩
    | own _ => cases q
    | ownd _ => cases q
    | ownt _ => cases q
  · obtain ⟨a, h1, _⟩ := r.own i s h (by simpa using q)
    exact ⟨_, h1⟩
theorem R.res (r : R G ent e S σ H F rho) : ∀ {vs : List V} {ws : List Wd} {ds : List D}, RepO G σ rho F vs ws → resW e ws = some ds → RepBL G rho F H vs ds
  | _, _, _, .nil, h => by cases h; exact .nil
  | _, .inl i :: ws, ds, .sl hv l, h => by
    unfold resW at h
    split at h
    · rename_i s hs
      cases q : resW e ws with
      | none => rw [q] at h; cases h
      | some es =>
        rw [q] at h; cases h
        exact .cons (r.look hs hv) (R.res r l q)
    · cases h
  | _, .inr d :: ws, ds, .ex hd l, h => by
    unfold resW at h
    cases q : resW e ws with
    | none => rw [q] at h; cases h
    | some es =>
      rw [q] at h; cases h
      exact .cons (.inl hd) (R.res r l q)
theorem RepO.mono (s : Sub F F') (p : Pre rho rho') : ∀ {vs : List V} {ws : List Wd}, RepO G σ rho F vs ws → RepO G σ rho' F' vs ws
  | _, _, .nil => .nil
  | _, _, .sl h l => .sl h (RepO.mono s p l)
  | _, _, .ex h l => .ex (h.mono s p) (RepO.mono s p l)

def postO (G : Gb) (W : WX) (ent : Ent) (σ : St) (F : Hp) (rho : List Addr) (Q : List V → Hp → Prop) : Out (List Wd) → Prop
  | .ok ws e S => ∀ (vs : List V) (H' F' : Hp) (rho' : List Addr), R G ent e S σ H' F' rho' → Sub F F' → Pre rho rho' → RepO G σ rho' F' vs ws → Q vs H'
  | .exc x e S => postX G W ent σ F rho x e S
  | .stuck => False
theorem postX.mono {x : D} (s : Sub F F') (p : Pre rho rho') (h : postX G W ent σ F rho x e S) : postX G W ent σ F' rho' x e S := fun H2 F2 r2 c d hR hs hp hx => h H2 F2 r2 c d hR (s.trans hs) (p.trans hp) hx
theorem tOs_of : ∀ {os : List Opr} {e : Env} {S : Sto} {H F : Hp} {rho : List Addr} {Q : List V → Hp → Prop}, R G ent e S σ H F rho → postO G W ent σ F rho Q (evO os e S) → tOs G W ent os σ H Q
  | [], e, S, H, F, rho, Q, hR, hp => hp [] H F rho hR (Sub.refl _) (Pre.refl _) .nil
  | .sl i :: os, e, S, H, F, rho, Q, hR, hp => by
    unfold evO at hp
    split at hp
    · rename_i s hs
      obtain ⟨v, hv⟩ := hR.there hs
      refine ⟨v, hv, tOs_of hR ?_⟩
      cases q : evO os e S with
      | ok ws e' S' =>
        rw [q] at hp
        intro vs H' F' rho' hR' s p hr
        exact hp (v :: vs) H' F' rho' hR' s p (.sl hv hr)
      | exc x e' S' => rw [q] at hp; exact hp
      | stuck => rw [q] at hp; exact hp
    · exact hp.elim
  | .ex m :: os, e, S, H, F, rho, Q, hR, hp => by
    unfold evO at hp
    refine ⟨e, S, F, rho, hR, ?_⟩
    cases q : m e S with
    | ok d e1 S1 =>
      rw [q] at hp
      intro v H1 F1 rho1 hR1 s1 p1 r1
      refine tOs_of hR1 ?_
      have hp : postO G W ent σ F rho Q ((evO os e1 S1).bind fun ws e S => .ok (.inr d :: ws) e S) := hp
      cases q2 : evO os e1 S1 with
      | ok ws e2 S2 =>
        rw [q2] at hp
        intro vs H2 F2 rho2 hR2 s2 p2 hr
        exact hp (v :: vs) H2 F2 rho2 hR2 (s1.trans s2) (p1.trans p2) (.ex (r1.mono s2 p2) hr)
      | exc x e2 S2 => rw [q2] at hp; exact postX.mono s1 p1 hp
      | stuck => rw [q2] at hp; exact hp
    | exc x e1 S1 => rw [q] at hp; exact hp
    | stuck => rw [q] at hp; exact hp
/-- the operands' values as data -/
def postL (G : Gb) (W : WX) (ent : Ent) (σ : St) (F : Hp) (rho : List Addr) (Q : List V → Hp → Prop) : Out (List D) → Prop
  | .ok ds e S => ∀ (vs : List V) (H' F' : Hp) (rho' : List Addr), R G ent e S σ H' F' rho' → Sub F F' → Pre rho rho' → RepBL G rho' F' H' vs ds → Q vs H'
  | .exc x e S => postX G W ent σ F rho x e S
  | .stuck => False
theorem tOs_R {os : List Opr} {Q : List V → Hp → Prop} (hR : R G ent e S σ H F rho) (hp : postL G W ent σ F rho Q (evR os e S)) : tOs G W ent os σ H Q := by
  refine tOs_of hR ?_
  unfold evR at hp
  cases q : evO os e S with
  | ok ws e1 S1 =>
    rw [q] at hp
    intro vs H' F' rho' hR' s p hr
    have hp : postL G W ent σ F rho Q (match resW e1 ws with
      | some ds => .ok ds e1 S1
      | none => .stuck) := hp
    split at hp
    · rename_i ds hd
      exact hp vs H' F' rho' hR' s p (hR'.res hr hd)
    · exact hp.elim
  | exc x e1 S1 => rw [q] at hp; exact hp
  | stuck => rw [q] at hp; exact hp
end

/-! primitives -/
abbrev PF := List D → Option D
def bPrim (f : PF) (os : List Opr) : Ex := fun e S => (evR os e S).bind fun ds e S => match f ds with
  | some d => .ok d e S
  | none => .stuck
/-- from the operands' data a datum, by the rule r -/
def PrimOk (G : Gb) (r : List V → Hp → VK → Prop) (f : PF) : Prop :=
  ∀ {rho : List Addr} {F H : Hp} {vs : List V} {ds : List D} {d : D} {Q : VK}, Sub F H → RepBL G rho F H vs ds → f ds = some d → (∀ v H' F', Grow H F H' F' → Rep G rho F' v d → Q v H') → r vs H Q
section
variable {G : Gb} {W : WX} {ent : Ent}
theorem prim_of {r : List V → Hp → VK → Prop} {f : PF} {os : List Opr} {σ : St} {H : Hp} {Q : VK} (hf : PrimOk G r f) (h : rdE G W ent (bPrim f os) σ H Q) : tOs G W ent os σ H (fun vs H' => r vs H' Q) := by
  obtain ⟨e, S, F, rho, hR, hp⟩ := h
  refine tOs_R hR ?_
  unfold bPrim at hp
  cases q : evR os e S with
  | ok ds e1 S1 =>
    rw [q] at hp
    intro vs H' F' rho' hR' s p hr
    have hp : postE G W ent σ F rho Q (match f ds with
      | some d => .ok d e1 S1
      | none => .stuck) := hp
    split at hp
    · rename_i d hd
      exact hf hR'.sub hr hd fun v H2 F2 g r2 => hp v H2 F2 rho' (hR'.grow g) (s.trans (g.sub hR'.sub)) p r2
    · exact hp.elim
  | exc x e1 S1 => rw [q] at hp; exact hp
  | stuck => rw [q] at hp; exact hp
end
section
variable {G : Gb} {rho : List Addr} {F H : Hp} {v : V}
theorem repB_non (h : RepB G rho F H v .non) : v = .non := by
  rcases h with h | ⟨a, s, _, ho, e⟩
  · cases h; rfl
  · cases s <;> first | exact ho.elim | cases e
theorem repB_int {i : Int} (h : RepB G rho F H v (.int i)) : v = .int i := by
  rcases h with h | ⟨a, s, _, ho, e⟩
  · cases h; rfl
  · cases s <;> first | exact ho.elim | cases e
theorem repB_bl {i : Bool} (h : RepB G rho F H v (.bl i)) : v = .bl i := by
  rcases h with h | ⟨a, s, _, ho, e⟩
  · cases h; rfl
  · cases s <;> first | exact ho.elim | cases e
theorem repB_str {i : Str} (h : RepB G rho F H v (.str i)) : v = .str i := by
  rcases h with h | ⟨a, s, _, ho, e⟩
  · cases h; rfl
  · cases s <;> first | exact ho.elim | cases e
theorem repB_ty {n : String} (h : RepB G rho F H v (.ty n)) : v = .ty n := by
  rcases h with h | ⟨a, s, _, ho, e⟩
  · cases h; rfl
  · cases s <;> first | exact ho.elim | cases e
theorem repB_tup {ds : List D} (s : Sub F H) (h : RepB G rho F H v (.tup ds)) : ∃ a xs, v = .ref a ∧ SqT G.K H a xs ∧ xs.length ≤ sizeLine ∧ RepL G rho F xs ds := by
  rcases h with h | ⟨a, s, _, ho, e⟩
  · cases h with
    | tup h1 _ z h2 => exact ⟨_, _, rfl, sqT_mono s h1, z, h2⟩
  · cases s <;> first | exact ho.elim | cases e
theorem repB_lst {ds : List D} (s : Sub F H) (h : RepB G rho F H v (.lst ds)) : ∃ a xs, v = .ref a ∧ SqL G.K H a xs ∧ xs.length ≤ sizeLine ∧ RepL G rho F xs ds := by
  rcases h with h | ⟨a, s, rfl, ho, e⟩
  · cases h with
    | lst h1 z h2 => exact ⟨_, _, rfl, sqL_mono s h1, z, h2⟩
  · cases s with
    | val _ => exact ho.elim
    | own _ => obtain ⟨xs, h1, z, h2⟩ := ho; cases e; exact ⟨a, xs, rfl, .of h1, z, h2⟩
    | ownd _ => cases e
    | ownt _ => cases e
theorem repB_dct {ks : List Key} {ds : List D} (s : Sub F H) (h : RepB G rho F H v (.dct ks ds)) : ∃ a kvs, v = .ref a ∧ H a = some (.dK kvs) ∧ kvs.map (·.1) = ks ∧ RepL G rho F (kvs.map (·.2)) ds := by
  rcases h with h | ⟨a, s, rfl, ho, e⟩
  · cases h with
    | dct h1 z h2 => exact ⟨_, _, rfl, s _ _ h1, z, h2⟩
  · cases s with
    | val _ => exact ho.elim
    | own _ => cases e
    | ownd _ => obtain ⟨xs, h1, z, h2⟩ := ho; cases e; exact ⟨a, xs, rfl, h1, z, h2⟩
    | ownt _ => cases e
theorem repB_dctt {ks : List (List Key)} {ds : List D} (s : Sub F H) (h : RepB G rho F H v (.dctt ks ds)) : ∃ a kvs, v = .ref a ∧ H a = some (.dT kvs) ∧ kvs.map (·.1) = ks ∧ RepL G rho F (kvs.map (·.2)) ds := by
  rcases h with h | ⟨a, s, rfl, ho, e⟩
  · cases h with
    | dctt h1 z h2 => exact ⟨_, _, rfl, s _ _ h1, z, h2⟩
  · cases s with
    | val _ => exact ho.elim
    | own _ => cases e
    | ownd _ => cases e
    | ownt _ => obtain ⟨xs, h1, z, h2⟩ := ho; cases e; exact ⟨a, xs, rfl, h1, z, h2⟩
theorem repBL1 {vs : List V} {d : D} (h : RepBL G rho F H vs [d]) : ∃ v, vs = [v] ∧ RepB G rho F H v d := by
  cases h with | cons h t => cases t; exact ⟨_, rfl, h⟩
theorem repBL2 {vs : List V} {d d2 : D} (h : RepBL G rho F H vs [d, d2]) : ∃ v v2, vs = [v, v2] ∧ RepB G rho F H v d ∧ RepB G rho F H v2 d2 := by
  cases h with | cons h t => obtain ⟨v2, rfl, h2⟩ := repBL1 t; exact ⟨_, v2, rfl, h, h2⟩
theorem repBL3 {vs : List V} {d d2 d3 : D} (h : RepBL G rho F H vs [d, d2, d3]) : ∃ v v2 v3, vs = [v, v2, v3] ∧ RepB G rho F H v d ∧ RepB G rho F H v2 d2 ∧ RepB G rho F H v3 d3 := by
  cases h with | cons h t => obtain ⟨v2, v3, rfl, h2, h3⟩ := repBL2 t; exact ⟨_, v2, v3, rfl, h, h2, h3⟩
end
end TM
namespace TM
open PySem PySem.Spec L2
open PyProof.Rows hiding St

/-- small ints, seen to without long ways for the kernel -/
def smI : Int → Bool
  | .ofNat k => Nat.ble k 1152921504606846975
  | .negSucc k => Nat.ble k 1152921504606846974
def nnI : Int → Bool
  | .ofNat k => Nat.ble k 1152921504606846975
  | .negSucc _ => false
theorem smI_of {i : Int} (h : smI i = true) : -1152921504606846976 < i ∧ i < 1152921504606846976 := by
  cases i with
  | ofNat k =>
    have := Nat.le_of_ble_eq_true h
    have e : Int.ofNat k = (k : Int) := rfl
    omega
  | negSucc k =>
    have := Nat.le_of_ble_eq_true h
    omega
theorem smI_iff {i : Int} (h : -1152921504606846976 < i ∧ i < 1152921504606846976) : smI i = true := by
  cases i with
  | ofNat k => exact Nat.ble_eq_true_of_le (by have e : Int.ofNat k = (k : Int) := rfl; omega)
  | negSucc k => exact Nat.ble_eq_true_of_le (by omega)
theorem nnI_of {i : Int} (h : nnI i = true) : 0 ≤ i ∧ i < 1152921504606846976 := by
  cases i with
  | ofNat k =>
    have := Nat.le_of_ble_eq_true h
    have e : Int.ofNat k = (k : Int) := rfl
    omega
  | negSucc k => cases h
theorem nnI_iff {i : Int} (h : 0 ≤ i ∧ i < 1152921504606846976) : nnI i = true := by
  cases i with
  | ofNat k => exact Nat.ble_eq_true_of_le (by have e : Int.ofNat k = (k : Int) := rfl; omega)
  | negSucc k => omega

/-! data as PyData -/
mutual
def D.py : D → PyData
  | .non => .none | .bl b => .bool b | .int i => .int i | .str x => .str x
  | .tup ds => .tuple (D.pys ds) | .lst ds => .list (D.pys ds)
  | .dct _ _ => .none | .dctt _ _ => .none | .ref _ => .none | .fn _ => .none | .cls _ => .none | .ty _ => .none | .exn _ _ _ => .none
def D.pys : List D → List PyData
  | [] => []
  | d :: ds => d.py :: D.pys ds
end
mutual
/-- plain data, of texts that stand -/
def D.dat : D → Bool
  | .non => true | .bl _ => true | .int _ => true | .str x => PyData.strOk x
  | .tup ds => D.dats ds | .lst ds => D.dats ds
  | .dct _ _ => false | .dctt _ _ => false | .ref _ => false | .fn _ => false | .cls _ => false | .ty _ => false | .exn _ _ _ => false
def D.dats : List D → Bool
  | [] => true
  | d :: ds => d.dat && D.dats ds
end
mutual
def D.dep : D → Nat
  | .non => 0 | .bl _ => 0 | .int _ => 0 | .str _ => 0
  | .tup ds => D.deps ds + 1 | .lst ds => D.deps ds + 1
  | .dct _ _ => 0 | .dctt _ _ => 0 | .ref _ => 0 | .fn _ => 0 | .cls _ => 0 | .ty _ => 0 | .exn _ _ _ => 0
def D.deps : List D → Nat
  | [] => 0
  | d :: ds => max d.dep (D.deps ds)
end
theorem D.pys_map : ∀ ds : List D, D.pys ds = ds.map D.py
  | [] => rfl
  | d :: ds => by rw [D.pys, D.pys_map ds]; rfl
mutual
theorem D.canLay : ∀ d : D, d.dat = true → d.py.canLay0 = true
  | .non, _ => rfl
  | .bl _, _ => rfl
  | .int _, _ => rfl
  | .str x, h => by
    rw [D.dat] at h
    simpa only [D.py, PyData.canLay0] using h
  | .tup ds, h => D.canLays ds h
  | .lst ds, h => D.canLays ds h
  | .dct _ _, h => nomatch h
  | .dctt _ _, h => nomatch h
  | .ref _, h => nomatch h
  | .fn _, h => nomatch h
  | .cls _, h => nomatch h
  | .ty _, h => nomatch h
  | .exn _ _ _, h => nomatch h
theorem D.canLays : ∀ ds : List D, D.dats ds = true → PyData.canLayAll0 (D.pys ds) = true
  | [], _ => rfl
  | d :: ds, h => by
    have h : (d.dat && D.dats ds) = true := h
    rw [Bool.and_eq_true] at h
    show (d.py.canLay0 && PyData.canLayAll0 (D.pys ds)) = true
    rw [D.canLay d h.1, D.canLays ds h.2]; rfl
end
mutual
theorem D.depth : ∀ d : D, d.py.depth ≤ d.dep
  | .non => Nat.le_refl _
  | .bl _ => Nat.le_refl _
  | .int _ => Nat.le_refl _
  | .str x => Nat.le_refl _
  | .tup ds => Nat.succ_le_succ (D.depths ds)
  | .lst ds => Nat.succ_le_succ (D.depths ds)
  | .dct _ _ => Nat.le_refl _
  | .dctt _ _ => Nat.le_refl _
  | .ref _ => Nat.le_refl _
  | .fn _ => Nat.le_refl _
  | .cls _ => Nat.le_refl _
  | .ty _ => Nat.le_refl _
  | .exn _ _ _ => Nat.le_refl _
theorem D.depths : ∀ ds : List D, PyData.depthAll (D.pys ds) ≤ D.deps ds
  | [] => Nat.le_refl _
  | d :: ds => by
    show max d.py.depth (PyData.depthAll (D.pys ds)) ≤ max d.dep (D.deps ds)
    have h1 := D.depth d
    have h2 := D.depths ds
    omega
end
def D.shp (d : D) : Bool := d.dat && decide (d.dep ≤ 64)
theorem D.shaped {d : D} (h : d.shp = true) : SeqAt.shaped d.py = true := by
  unfold D.shp at h
  rw [Bool.and_eq_true] at h
  unfold SeqAt.shaped
  rw [D.canLay d h.1, Bool.true_and]
  exact decide_eq_true (Nat.le_trans (D.depth d) (of_decide_eq_true h.2))

section
variable {G : Gb} {rho : List Addr} {F H : Hp}
mutual
theorem Rep.dp (s : Sub F H) : ∀ {v : V} {d : D}, Rep G rho F v d → d.dat = true → Dp G.K H v d.py
  | _, _, .non, _ => .non
  | _, _, .bl b, _ => .bl b
  | _, _, .int b, _ => .int b
  | _, _, .str b, _ => .str b
  | _, _, .tup h _ _ l, q => .tup (sqT_mono s h) (RepL.dp s l q)
  | _, _, .lst h _ l, q => .lst (sqL_mono s h) (RepL.dp s l q)
  | _, _, .dct _ _ _, q => nomatch q
  | _, _, .dctt _ _ _, q => nomatch q
  | _, _, .ref _, q => nomatch q
  | _, _, .fn _, q => nomatch q
  | _, _, .cls _, q => nomatch q
  | _, _, .ty _, q => nomatch q
  | _, _, .exn _ _ _ _ _, q => nomatch q
  | _, _, .exn0 _ _, q => nomatch q
theorem RepL.dp (s : Sub F H) : ∀ {vs : List V} {ds : List D}, RepL G rho F vs ds → D.dats ds = true → DpAll G.K H vs (D.pys ds)
  | _, _, .nil, _ => .nil
  | _, d :: ds, .cons r l, q => by
    have h : (d.dat && D.dats ds) = true := q
    rw [Bool.and_eq_true] at h
    exact .cons (Rep.dp s r h.1) (RepL.dp s l h.2)
end
theorem RepB.dp (s : Sub F H) {v : V} {d : D} (h : RepB G rho F H v d) (q : d.dat = true) : Dp G.K H v d.py := by
  rcases h with h | ⟨a, t, rfl, ho, rfl⟩
  · exact h.dp s q
  · cases t with
    | val _ => exact ho.elim
    | own ds => obtain ⟨xs, h1, _, h2⟩ := ho; exact .lst (.of h1) (h2.dp s q)
    | ownd _ => cases q
    | ownt _ => cases q
end

/-! binary operators -/
def rL2 (r : R2) : List V → Hp → VK → Prop := fun vs H Q => match vs with
  | [x, y] => r x y H Q
  | _ => False
theorem opr_or {X : Cx} {f : Value → Value → Sem Value} {r r' : R2} (h : OpR X f r) (h' : OpR X f r') : OpR X f (fun x y H Q => r x y H Q ∨ r' x y H Q) := fun pins s σ H x y v u Q I rx ry q => q.elim (h pins s σ H x y v u Q I rx ry) (h' pins s σ H x y v u Q I rx ry)

/-- what is wanted of a datum that is made: a list is new -/
def Cont (G : Gb) (rho : List Addr) (F H : Hp) (Q : VK) : D → Prop
  | .lst es => ∀ (p : Addr) (xs : List V) (H1 F1 : Hp), Grow H F H1 F1 → H1 p = none → xs.length ≤ sizeLine → RepL G rho F1 xs es → Q (.ref p) (upd H1 p (.lst xs))
  | d => ∀ (v : V) (H1 F1 : Hp), Grow H F H1 F1 → Rep G rho F1 v d → Q v H1
def PrimFr (G : Gb) (r : List V → Hp → VK → Prop) (f : PF) : Prop :=
  ∀ {rho : List Addr} {F H : Hp} {vs : List V} {ds : List D} {d : D} {Q : VK}, Sub F H → RepBL G rho F H vs ds → f ds = some d → Cont G rho F H Q d → r vs H Q
theorem Cont.of {G : Gb} {rho : List Addr} {F H : Hp} {Q : VK} (s : Sub F H) {d : D} (h : ∀ v H' F', Grow H F H' F' → Rep G rho F' v d → Q v H') : Cont G rho F H Q d := by
  cases d with
  | lst es =>
    intro p xs H1 F1 g hp hz hr
    have g2 : Grow H1 F1 (upd H1 p (.lst xs)) (upd F1 p (.lst xs)) := Grow.alloc (g.ok s) hp
    exact h _ _ _ (g.trans g2) (.lst (.of upd_same) hz (hr.mono (g2.sub (g.ok s)) (Pre.refl _)))
  | _ => exact h
theorem PrimFr.ok {G : Gb} {r : List V → Hp → VK → Prop} {f : PF} (h : PrimFr G r f) : PrimOk G r f := fun s hr hf q => h s hr hf (Cont.of s q)

def rCatL (K : PySem.W.Frag) : R2 := fun x y H Q => ∃ l b xs zs, x = .ref l ∧ y = .ref b ∧ SqL K H l xs ∧ SqL K H b zs ∧ xs.length + zs.length ≤ sizeLine ∧ ∀ p, H p = none → Q (.ref p) (upd H p (.lst (xs ++ zs)))
theorem op_catL {X : Cx} : OpR X (binaryOp .Add) (rCatL X.K) := by
  intro pins s σ H x y v u Q I rx ry h
  obtain ⟨l, b, xs, zs, rfl, rfl, hH, hB, hz, q⟩ := h
  cases rx
  cases ry
  obtain ⟨its, r, ⟨⟨cls, dd, data, sls⟩, n, ho, hc, hdn, hdt⟩, hlen⟩ := I.list hH
  obtain ⟨its2, r2, ⟨⟨cls2, dd2, data2, sls2⟩, n2, ho2, hc2, hdn2, hdt2⟩, hlen2⟩ := I.list hB
  simp only at hc hdt hc2 hdt2
  subst hc hdt hc2 hdt2
  have e1 := r.length
  have e2 := r2.length
  have ea : its.toArray ++ its2.toArray = (its ++ its2).toArray := by simp
  refine concat_meets ⟨_, ho, rfl⟩ ⟨_, ho2, rfl⟩ noFill_list_add seq_list_add F.slot_list_add F.entry_list_add (F.args_list_add_2 _ _)
    (PyProof.Rows.list_addW l b its.toArray its2.toArray n n2 _ _ _ _ (by simp; omega)) ⟨ho, ho2, ?_⟩
  rw [ea]
  exact ⟨.ref _, _, I.lnew (t' := s.toks) (r.append r2) (by rw [List.length_append]; omega), rfl, q _ I.fresh⟩

def fAdd : PF
  | [.int i, .int j] => some (.int (i + j))
  | [.str x, .str y] => if x.length + y.length ≤ sizeLine then some (.str (x ++ y)) else none
  | [.tup a, .tup b] => if a.length + b.length ≤ sizeLine then some (.tup (a ++ b)) else none
  | [.lst a, .lst b] => if a.length + b.length ≤ sizeLine then some (.lst (a ++ b)) else none
  | _ => none
def rAddD (K : PySem.W.Frag) : R2 := fun x y H Q => (rI0 (fun i j => .int (i + j)) x y H Q ∨ (∃ i j, x = .str i ∧ y = .str j ∧ i.length + j.length ≤ sizeLine ∧ Q (.str (i ++ j)) H)) ∨ (rCatA K x y H Q ∨ rCatL K x y H Q)
theorem op_addD {X : Cx} : OpR X (binaryOp .Add) (rAddD X.K) := opr_or (opr_or op_add op_add_str) (opr_or op_catA op_catL)
theorem fr_add {G : Gb} : PrimFr G (rL2 (rAddD G.K)) fAdd := by
  intro rho F H vs ds d Q s hr hf q
  unfold fAdd at hf
  split at hf
  · cases hf
    obtain ⟨v, w, rfl, h1, h2⟩ := repBL2 hr
    cases repB_int h1; cases repB_int h2
    exact .inl (.inl ⟨_, _, rfl, rfl, q _ H F (Grow.refl s) (.int _)⟩)
  · split at hf
    · rename_i hz
      cases hf
      obtain ⟨v, w, rfl, h1, h2⟩ := repBL2 hr
      cases repB_str h1; cases repB_str h2
      exact .inl (.inr ⟨_, _, rfl, rfl, hz, q _ H F (Grow.refl s) (.str _)⟩)
    · cases hf
  · split at hf
    · rename_i hz
      cases hf
      obtain ⟨v, w, rfl, h1, h2⟩ := repBL2 hr
      obtain ⟨a, xs, rfl, t1, z1, l1⟩ := repB_tup s h1
      obtain ⟨b, ys, rfl, t2, z2, l2⟩ := repB_tup s h2
      have hz : xs.length + ys.length ≤ sizeLine := by rw [l1.length, l2.length]; exact hz
      refine .inr (.inl ⟨a, b, xs, ys, rfl, rfl, t1, t2, hz, fun e => ?_, fun e1 e2 => ?_, fun e1 e2 p hp => ?_⟩)
      · subst e; cases l1
        rcases h2 with h2 | ⟨_, t, _, ho, e⟩
        · exact q _ H F (Grow.refl s) h2
        · cases t <;> first | exact ho.elim | cases e
      · subst e2; cases l2
        rw [List.append_nil] at q
        rcases h1 with h1 | ⟨_, t, _, ho, e⟩
        · exact q _ H F (Grow.refl s) h1
        · cases t <;> first | exact ho.elim | cases e
      · have g := Grow.alloc (o := .tup (xs ++ ys)) s hp
        exact q _ _ _ g (.tup (.of upd_same) (fun _ => upd_same) (by rw [List.length_append]; exact hz) ((l1.append l2).mono (g.sub s) (Pre.refl _)))
    · cases hf
  · split at hf
    · rename_i hz
      cases hf
      obtain ⟨v, w, rfl, h1, h2⟩ := repBL2 hr
      obtain ⟨a, xs, rfl, t1, z1, l1⟩ := repB_lst s h1
      obtain ⟨b, ys, rfl, t2, z2, l2⟩ := repB_lst s h2
      have hz : xs.length + ys.length ≤ sizeLine := by rw [l1.length, l2.length]; exact hz
      exact .inr (.inr ⟨a, b, xs, ys, rfl, rfl, t1, t2, hz, fun p hp => q p _ H F (Grow.refl s) hp (by rw [List.length_append]; exact hz) (l1.append l2)⟩)
    · cases hf
  · cases hf

/-- two ints -/
theorem prim_ints {G : Gb} {C : Int → Int → Prop} {g : Int → Int → V} {f : PF} (h : ∀ ds d, f ds = some d → ∃ i j, ds = [.int i, .int j] ∧ C i j ∧ ∀ (rho : List Addr) (F : Hp), Rep G rho F (g i j) d) : PrimOk G (rL2 (rI C g)) f := by
  intro rho F H vs ds d Q s hr hf q
  obtain ⟨i, j, rfl, hc, hd⟩ := h _ _ hf
  obtain ⟨v, w, rfl, h1, h2⟩ := repBL2 hr
  cases repB_int h1; cases repB_int h2
  exact ⟨i, j, rfl, rfl, hc, q _ H F (Grow.refl s) (hd rho F)⟩
theorem opI0I {X : Cx} {f : Value → Value → Sem Value} {g : Int → Int → V} (h : OpR X f (rI0 g)) : OpR X f (rI (fun _ _ => True) g) := fun pins s σ H x y v u Q I rx ry ⟨i, j, a, b, _, q⟩ => h pins s σ H x y v u Q I rx ry ⟨i, j, a, b, q⟩
def fSub : PF
  | [.int i, .int j] => some (.int (i - j))
  | _ => none
theorem ok_sub {G : Gb} : PrimOk G (rL2 (rI (fun _ _ => True) fun i j => .int (i - j))) fSub := prim_ints fun ds d h => by
  unfold fSub at h
  split at h
  · cases h; exact ⟨_, _, rfl, trivial, fun _ _ => .int _⟩
  · cases h
def fFdiv : PF
  | [.int i, .int j] => if j ≠ 0 ∧ j.natAbs < 1073741824 then some (.int (i.fdiv j)) else none
  | _ => none
theorem ok_fdiv {G : Gb} : PrimOk G (rL2 (rI CDivN fun i j => .int (i.fdiv j))) fFdiv := prim_ints fun ds d h => by
  unfold fFdiv at h
  split at h
  · split at h
    · rename_i hc; cases h; exact ⟨_, _, rfl, hc, fun _ _ => .int _⟩
    · cases h
  · cases h
def fMod : PF
  | [.int i, .int j] => if j ≠ 0 then some (.int (i.fmod j)) else none
  | _ => none
theorem ok_mod {G : Gb} : PrimOk G (rL2 (rI (fun _ j => j ≠ 0) fun i j => .int (i.fmod j))) fMod := prim_ints fun ds d h => by
  unfold fMod at h
  split at h
  · split at h
    · rename_i hc; cases h; exact ⟨_, _, rfl, hc, fun _ _ => .int _⟩
    · cases h
  · cases h
def fPow : PF
  | [.int i, .int j] => if 0 ≤ j ∧ j ≤ 1000000 ∧ i.natAbs < 2 ^ 64 then some (.int (i ^ j.toNat)) else none
  | _ => none
theorem ok_pow {G : Gb} : PrimOk G (rL2 (rI CPow fun i j => .int (i ^ j.toNat))) fPow := prim_ints fun ds d h => by
  unfold fPow at h
  split at h
  · split at h
    · rename_i hc; cases h; exact ⟨_, _, rfl, hc, fun _ _ => .int _⟩
    · cases h
  · cases h
end TM
namespace TM
open PySem PySem.Spec L2
open PyProof.Rows hiding St

/-! products -/
def strRep (x : Str) (n : Int) : Str := ⟨(List.replicate n.toNat x.cps).foldl (· ++ ·) #[]⟩
theorem foldl_app (a : Array Nat) : ∀ (n : Nat) (b : Array Nat), (List.replicate n a).foldl (· ++ ·) b = b ++ (List.replicate n a).foldl (· ++ ·) #[]
  | 0, b => by simp
  | n + 1, b => by
    rw [List.replicate_succ, List.foldl_cons, List.foldl_cons, foldl_app a n (b ++ a), foldl_app a n (#[] ++ a)]
    simp [Array.append_assoc]
theorem foldl_toList (a : Array Nat) : ∀ (n : Nat), ((List.replicate n a).foldl (· ++ ·) #[]).toList = (List.replicate n a.toList).flatten
  | 0 => rfl
  | n + 1 => by
    rw [List.replicate_succ, List.foldl_cons, foldl_app, List.replicate_succ, List.flatten_cons]
    simp [foldl_toList a n]
theorem strRep_toList (x : Str) (n : Int) : (strRep x n).cps.toList = (List.replicate n.toNat x.cps.toList).flatten := foldl_toList _ _
def rMulS : R2 := fun x y H Q => ∃ (z : Str) (n : Int), x = .str z ∧ y = .int n ∧ -(2 ^ 63) ≤ n ∧ n < 2 ^ 63 ∧ z.length * n.toNat ≤ sizeLine ∧ Q (.str (strRep z n)) H
theorem op_mulS {X : Cx} : OpR X (binaryOp .Mult) rMulS := by
  intro pins s σ H x y v u Q I rx ry h
  obtain ⟨z, n, rfl, rfl, h1, h2, hz, q⟩ := h
  obtain ⟨t, rfl⟩ := rx
  obtain ⟨t', rfl⟩ := ry
  refine PySem.P.mul_str ?_ ?_ ?_ ?_
  · rw [decide_eq_false (by omega), decide_eq_false (by omega)]; rfl
  · intro a b c
    simp only [Bool.or_eq_false_iff, beq_eq_false_iff_ne, ne_eq] at b
    have hn : (2 : Int) ≤ n := by omega
    have : (z.length : Int) * n ≤ 16777216 := by
      have e : (n.toNat : Int) = n := by omega
      have : ((z.length * n.toNat : Nat) : Int) ≤ (sizeLine : Nat) := Int.ofNat_le.mpr hz
      rw [Int.natCast_mul, e] at this
      exact this
    have := Int.le_ediv_of_mul_le (a := z.length) (b := (2 ^ 63 - 1 : Int)) (c := n) (by omega) (by omega)
    omega
  · intro _ _
    unfold Builtin.Str.tooLong
    exact decide_eq_false (by omega)
  · by_cases a : n < 1
    · rw [if_pos a]
      refine ⟨by decide, ⟨.str (strRep z n), H, I.tok _, ⟨s.toks, ?_⟩, q⟩⟩
      have e : n.toNat = 0 := by omega
      unfold strRep; rw [e]; rfl
    · rw [if_neg a]
      by_cases b : (n == 1 || z.length == 0) = true
      · rw [if_pos b]
        have e : strRep z n = z := by
          have e2 : (strRep z n).cps.toList = z.cps.toList := by
            rw [strRep_toList]
            rw [Bool.or_eq_true] at b
            rcases b with b | b
            · have : n = 1 := by simpa using b
              subst this
              simp
            · have b : z.length = 0 := by simpa using b
              have b2 : z.cps.toList = [] := by
                have : z.cps.size = 0 := b
                exact List.length_eq_zero_iff.mp (by simpa using this)
              rw [b2]
              simp
          obtain ⟨c⟩ := z
          generalize strRep ⟨c⟩ n = w at e2 ⊢
          obtain ⟨w⟩ := w
          have : w = c := Array.toList_inj.mp e2
          rw [this]
        refine ⟨.str (strRep z n), H, I, ⟨t, ?_⟩, q⟩
        rw [e]
      · rw [if_neg b]
        refine ⟨?_, ⟨.str (strRep z n), H, I.tok _, ⟨_, rfl⟩, q⟩⟩
        show (strRep z n).cps.size ≤ sizeLine
        have : (strRep z n).cps.toList.length = n.toNat * z.length := by
          rw [strRep_toList]
          simp [List.length_flatten, Str.length]
        rw [Array.length_toList] at this
        rw [this, Nat.mul_comm]; exact hz
theorem rmul_lst (a : Int) (t : Tok) (l : Addr) (its : Array Value) (n : Nat) (dd : Option Addr) (sl : Array (Option Value)) :
    Meets (Builtin.«int.__rmul__» ⟨[.int a t, .ref l], []⟩) (fun _ R s => s.heap.get? l = some { cls := .type "list", dict := dd, data := .seq its n, slots := sl } ∧ R (.ok (.ret Value.notImplemented)) s) :=
  .of_wp fun prog w A R s h => by
    obtain ⟨hp, g, d, tk, os⟩ := s
    obtain ⟨hl, h⟩ := h
    wp_walk using wpAny_loadPart' hl
    exact ⟨_, rfl, h⟩
theorem mul_lst (l : Addr) (its : Array Value) (n : Nat) (dd : Option Addr) (sl : Array (Option Value)) (x : Int) (u : Tok) (c0 : ¬ (!Builtin.List.listFitsIndex x) = true) (c1 : ¬ its.size * x.toNat > (2 ^ 63 - 1) / 8) (c2 : ¬ Builtin.List.listTooLong (its.size * x.toNat) = true)
    (c3 : (List.foldl (fun a b => a ++ b) #[] (List.replicate (if its.isEmpty = true then 0 else x.toNat) its)).size ≤ sizeLine) :
    Meets (Builtin.«list.__mul__» ⟨[.ref l, .int x u], []⟩) (fun _ R s => s.heap.get? l = some { cls := .type "list", dict := dd, data := .seq its n, slots := sl } ∧
      R (.ok (.ret (Value.ref s.heap.objs.size))) { s with heap := s.heap.push { cls := Value.type "list", data := Data.seq (List.foldl (fun a b => a ++ b) #[] (List.replicate (if its.isEmpty = true then 0 else x.toNat) its)) }, toks := s.toks }) :=
  .of_wp fun prog w A R s h => by
    obtain ⟨hp, g, d, tk, os⟩ := s
    obtain ⟨hl, h⟩ := h
    have f1 := AutoSeq1.idx_int
    wp_walk using wpAny_loadPart' hl
    repeat (first
      | (refine wpAny_ite_false (decide_eq_false c0) ?_; wp_walk using wpAny_loadPart' hl)
      | (refine wpAny_ite_false (decide_eq_false c1) ?_; wp_walk using wpAny_loadPart' hl)
      | (refine wpAny_ite_false (decide_eq_false c2) ?_; wp_walk using wpAny_loadPart' hl)
      | (refine wpAny_ite_false (decide_eq_false (Nat.not_lt.mpr c3)) ?_; wp_walk using wpAny_loadPart' hl))
    exact ⟨_, rfl, h⟩
def rMulL (K : PySem.W.Frag) : R2 := fun x y H Q => ∃ l k xs, x = .ref l ∧ y = .int k ∧ SqL K H l xs ∧ -(2 ^ 63) ≤ k ∧ k < 2 ^ 63 ∧ xs.length * k.toNat ≤ sizeLine ∧
  ∀ p, H p = none → Q (.ref p) (upd H p (.lst (List.replicate k.toNat xs).flatten))
theorem op_mulL {X : Cx} : OpR X (binaryOp .Mult) (rMulL X.K) := by
  intro pins s σ H x y v u Q I rx ry h
  obtain ⟨l, k, xs, rfl, rfl, hH, h1, h2, hz, q⟩ := h
  cases rx
  obtain ⟨t, rfl⟩ := ry
  obtain ⟨its, r, ⟨⟨cls, dd, data, sl⟩, n, e, hc, hdn, hdt⟩, hlen⟩ := I.list hH
  simp only at hc hdt
  subst hc hdt
  have hl := r.length
  have hlen2 : its.toArray.size * k.toNat ≤ sizeLine := by rw [List.size_toArray, ← hl]; exact hz
  have hcap : ¬ its.toArray.size * k.toNat > (2 ^ 63 - 1) / 8 := by
    have : (sizeLine : Nat) ≤ (2 ^ 63 - 1) / 8 := by decide
    omega
  have hfit : ¬ (!Builtin.List.listFitsIndex k) = true := by
    rw [fitsIndex_both h1 h2]; exact Bool.false_ne_true
  have hlong : ¬ Builtin.List.listTooLong (its.toArray.size * k.toNat) = true := by
    rw [notLongL hlen2]; exact Bool.false_ne_true
  have hnew : List.foldl (fun a b => a ++ b) #[] (List.replicate (if its.toArray.isEmpty = true then 0 else k.toNat) its.toArray) = (List.replicate k.toNat its).flatten.toArray := by
    rw [L2.size_rep]
    cases its with
    | nil => simp
    | cons a r' => rw [if_neg (by simp)]
  have hfl : (List.replicate k.toNat its).flatten.length ≤ sizeLine := by
    rw [PyProof.Rows.lm_len_rep_flat, Nat.mul_comm, ← hl]; exact hz
  refine wpAny_binaryOp_repeat_ref (T := "list") (U := "int") (by decide) ⟨_, e, rfl⟩ (fun s' => typeIs_int s' k t) noFill_list_mul F.fills_int_mul F.slot_int_rmul repeat_list F.slot_int_index.lookup
    (call_meets F.slot_int_rmul (typeIs_int s k t) F.entry_int_rmul (F.args_int_rmul_2 _ _) (rmul_lst k t l its.toArray n dd sl)
      ⟨e, rfl, ⟨_, e, rfl⟩, call_meets F.slot_list_mul ⟨_, e, rfl⟩ F.entry_list_mul (F.args_list_mul_2 _ _) (mul_lst l its.toArray n dd sl k t hfit hcap hlong (by rw [hnew]; simpa using hfl)) ⟨e, ?_⟩⟩)
  rw [hnew]
  exact ⟨.ref _, _, I.lnew (t' := s.toks) (r.rep k.toNat) (by rw [PyProof.Rows.lm_len_rep_flat, Nat.mul_comm]; exact hz), rfl, q _ I.fresh⟩
theorem RepL.rep {G : Gb} {rho : List Addr} {F : Hp} {vs : List V} {ds : List D} (h : RepL G rho F vs ds) : ∀ n : Nat, RepL G rho F (List.replicate n vs).flatten (List.replicate n ds).flatten
  | 0 => .nil
  | n + 1 => by
    rw [List.replicate_succ, List.replicate_succ, List.flatten_cons, List.flatten_cons]
    exact h.append (RepL.rep h n)
def fMul : PF
  | [.int i, .int j] => if smI i = true ∨ smI j = true then some (.int (i * j)) else none
  | [.str x, .int n] => if smI n = true ∧ x.length * n.toNat ≤ sizeLine then some (.str (strRep x n)) else none
  | [.lst ds, .int n] => if smI n = true ∧ ds.length * n.toNat ≤ sizeLine then some (.lst (List.replicate n.toNat ds).flatten) else none
  | [.tup ds, .int n] => if ds ≠ [] ∧ smI n = true ∧ 2 ≤ n.toNat ∧ n.toNat ≤ 1000 ∧ ds.length ≤ 1000 then some (.tup (List.replicate n.toNat ds).flatten) else none
  | _ => none
def rMulD (K : PySem.W.Frag) : R2 := fun x y H Q => (rI CMul (fun i j => .int (i * j)) x y H Q ∨ rMulS x y H Q) ∨ (rMulL K x y H Q ∨ rRepT K x y H Q)
theorem op_mulD {X : Cx} : OpR X (binaryOp .Mult) (rMulD X.K) := opr_or (opr_or op_mul op_mulS) (opr_or op_mulL op_repT)
theorem fr_mul {G : Gb} : PrimFr G (rL2 (rMulD G.K)) fMul := by
  intro rho F H vs ds d Q s hr hf q
  unfold fMul at hf
  split at hf <;> (first | cases hf; done | skip)
  · split at hf
    · rename_i hc
      cases hf
      obtain ⟨v, w, rfl, h1, h2⟩ := repBL2 hr
      cases repB_int h1; cases repB_int h2
      refine .inl (.inl ⟨_, _, rfl, rfl, ?_, q _ H F (Grow.refl s) (.int _)⟩)
      rcases hc with hc | hc
      · have := smI_of hc; exact .inl ⟨by omega, by omega⟩
      · have := smI_of hc; exact .inr ⟨by omega, by omega⟩
    · cases hf
  · split at hf
    · rename_i hc
      cases hf
      obtain ⟨v, w, rfl, h1, h2⟩ := repBL2 hr
      cases repB_str h1; cases repB_int h2
      have hs := smI_of hc.1
      exact .inl (.inr ⟨_, _, rfl, rfl, by omega, by omega, hc.2, q _ H F (Grow.refl s) (.str _)⟩)
    · cases hf
  · split at hf
    · rename_i hc
      cases hf
      obtain ⟨v, w, rfl, h1, h2⟩ := repBL2 hr
      obtain ⟨a, xs, rfl, t1, z1, l1⟩ := repB_lst s h1
      cases repB_int h2
      have hz := hc.2
      have hs := smI_of hc.1
      rw [← l1.length] at hz
      refine .inr (.inl ⟨_, _, xs, rfl, rfl, t1, by omega, by omega, hz, fun p hp => ?_⟩)
      exact q p _ H F (Grow.refl s) hp (by rw [PyProof.Rows.lm_len_rep_flat, Nat.mul_comm]; exact hz) (l1.rep _)
    · cases hf
  · split at hf
    · rename_i hc
      cases hf
      obtain ⟨v, w, rfl, h1, h2⟩ := repBL2 hr
      obtain ⟨a, xs, rfl, t1, z1, l1⟩ := repB_tup s h1
      cases repB_int h2
      have hne : xs ≠ [] := fun e => hc.1 (by subst e; cases l1; rfl)
      obtain ⟨_, _, hc2, hc3, hc4⟩ := hc
      refine .inr (.inr ⟨_, _, xs, rfl, rfl, t1, hne, by omega, by omega, by rw [l1.length]; exact hc4, fun p hp => ?_⟩)
      refine q _ _ _ (Grow.alloc s hp) (.tup (.of upd_same) (fun _ => upd_same) ?_ ((l1.rep _).mono ((Grow.alloc s hp).sub s) (Pre.refl _)))
      rw [PyProof.Rows.lm_len_rep_flat, l1.length]
      exact Nat.le_trans (Nat.mul_le_mul hc3 hc4) (show 1000 * 1000 ≤ sizeLine by decide)
    · cases hf

/-! comparisons -/
def fEqB (x y : D) : Option Bool := match x, y with
  | .str a, .str b => some (decide (a = b))
  | x, y => if x.shp = true ∧ y.shp = true then some (PyData.eqv x.py y.py) else none
def fEq : PF
  | [x, y] => (fEqB x y).map .bl
  | _ => none
def fNe : PF
  | [x, y] => (fEqB x y).map fun b => .bl (!b)
  | _ => none
def rEqA (K : PySem.W.Frag) : R2 := fun x y H Q => rEq x y H Q ∨ rEqD K x y H Q
def rNeA (K : PySem.W.Frag) : R2 := fun x y H Q => rNe x y H Q ∨ rNeD K x y H Q
theorem op_eqA {X : Cx} (hu : X.A.units + 64 < cLine) : OpR X (compareOp .Eq) (rEqA X.K) := opr_or op_eq (op_eqD hu)
theorem op_neA {X : Cx} (hu : X.A.units + 64 < cLine) : OpR X (compareOp .NotEq) (rNeA X.K) := opr_or op_ne (op_neD hu)
theorem ok_eq {G : Gb} : PrimOk G (rL2 (rEqA G.K)) fEq := by
  intro rho F H vs ds d Q s hr hf q
  unfold fEq at hf
  split at hf
  · obtain ⟨v, w, rfl, h1, h2⟩ := repBL2 hr
    unfold fEqB at hf
    split at hf
    · cases hf
      cases repB_str h1; cases repB_str h2
      refine .inl ⟨rfl, ?_⟩
      have e : ∀ a b : Str, decide (V.str a = V.str b) = decide (a = b) := fun a b => by simp
      rw [e]
      exact q _ H F (Grow.refl s) (.bl _)
    · split at hf
      · rename_i hs
        cases hf
        exact .inr ⟨_, _, h1.dp s (Bool.and_eq_true_iff.mp hs.1).1, h2.dp s (Bool.and_eq_true_iff.mp hs.2).1, D.shaped hs.1, D.shaped hs.2, q _ H F (Grow.refl s) (.bl _)⟩
      · cases hf
  · cases hf
theorem ok_ne {G : Gb} : PrimOk G (rL2 (rNeA G.K)) fNe := by
  intro rho F H vs ds d Q s hr hf q
  unfold fNe at hf
  split at hf
  · obtain ⟨v, w, rfl, h1, h2⟩ := repBL2 hr
    unfold fEqB at hf
    split at hf
    · cases hf
      cases repB_str h1; cases repB_str h2
      refine .inl ⟨rfl, ?_⟩
      have e : ∀ a b : Str, decide (V.str a = V.str b) = decide (a = b) := fun a b => by simp
      rw [e]
      exact q _ H F (Grow.refl s) (.bl _)
    · split at hf
      · rename_i hs
        cases hf
        exact .inr ⟨_, _, h1.dp s (Bool.and_eq_true_iff.mp hs.1).1, h2.dp s (Bool.and_eq_true_iff.mp hs.2).1, D.shaped hs.1, D.shaped hs.2, q _ H F (Grow.refl s) (.bl _)⟩
      · cases hf
  · cases hf
end TM
namespace TM
open PySem PySem.Spec L2
open PyProof.Rows hiding St

def rStrB (g : Str → Str → Bool) : R2 := fun x y H Q => ∃ i j, x = .str i ∧ y = .str j ∧ Q (.bl (g i j)) H
/-- an order of ints or texts -/
def rOrd (gi : Int → Int → Bool) (gs : Str → Str → Bool) : R2 := fun x y H Q => rI0 (fun i j => .bl (gi i j)) x y H Q ∨ rStrB gs x y H Q
def fOrd (gi : Int → Int → Bool) (gs : Str → Str → Bool) : PF
  | [.int i, .int j] => some (.bl (gi i j))
  | [.str i, .str j] => some (.bl (gs i j))
  | _ => none
theorem ok_ord {G : Gb} {gi : Int → Int → Bool} {gs : Str → Str → Bool} : PrimOk G (rL2 (rOrd gi gs)) (fOrd gi gs) := by
  intro rho F H vs ds d Q s hr hf q
  unfold fOrd at hf
  split at hf
  · cases hf
    obtain ⟨v, w, rfl, h1, h2⟩ := repBL2 hr
    cases repB_int h1; cases repB_int h2
    exact .inl ⟨_, _, rfl, rfl, q _ H F (Grow.refl s) (.bl _)⟩
  · cases hf
    obtain ⟨v, w, rfl, h1, h2⟩ := repBL2 hr
    cases repB_str h1; cases repB_str h2
    exact .inr ⟨_, _, rfl, rfl, q _ H F (Grow.refl s) (.bl _)⟩
  · cases hf
def strLt (a b : Str) : Bool := decide (a.cps.toList < b.cps.toList)
abbrev fLt : PF := fOrd (fun i j => decide (i < j)) strLt
abbrev fLe : PF := fOrd (fun i j => decide (i ≤ j)) (fun a b => !strLt b a)
abbrev fGt : PF := fOrd (fun i j => decide (j < i)) (fun a b => strLt b a)
abbrev fGe : PF := fOrd (fun i j => decide (j ≤ i)) (fun a b => !strLt a b)
theorem op_ltD {X : Cx} : OpR X (compareOp .Lt) (rOrd (fun i j => decide (i < j)) strLt) := opr_or op_lt op_lt_str
theorem op_leD {X : Cx} : OpR X (compareOp .LtE) (rOrd (fun i j => decide (i ≤ j)) (fun a b => !strLt b a)) := opr_or op_le op_le_str
theorem op_gtD {X : Cx} : OpR X (compareOp .Gt) (rOrd (fun i j => decide (j < i)) (fun a b => strLt b a)) := opr_or op_gt op_gt_str
theorem op_geD {X : Cx} : OpR X (compareOp .GtE) (rOrd (fun i j => decide (j ≤ i)) (fun a b => !strLt a b)) := opr_or op_ge op_ge_str

/-! is None -/
def fIsN : PF
  | [d, .non] => some (.bl (match d with | .non => true | _ => false))
  | _ => none
def fNotN : PF
  | [d, .non] => some (.bl (match d with | .non => false | _ => true))
  | _ => none
theorem repB_isN {G : Gb} {rho : List Addr} {F H : Hp} {v : V} {d : D} (h : RepB G rho F H v d) : decide (v = .non) = (match d with | .non => true | _ => false) := by
  rcases h with h | ⟨a, t, rfl, ho, rfl⟩
  · cases h <;> simp
  · cases t with
    | val _ => exact ho.elim
    | own _ => simp [Slot.frz]
    | ownd _ => simp [Slot.frz]
    | ownt _ => simp [Slot.frz]
theorem ok_isN {G : Gb} : PrimOk G (rL2 (fun x y H Q => y = .non ∧ Q (.bl (decide (x = .non))) H)) fIsN := by
  intro rho F H vs ds d Q s hr hf q
  unfold fIsN at hf
  split at hf
  · rename_i dd
    cases hf
    obtain ⟨v, w, rfl, h1, h2⟩ := repBL2 hr
    cases repB_non h2
    refine ⟨rfl, ?_⟩
    rw [repB_isN h1]
    have := q _ H F (Grow.refl s) (.bl _)
    cases dd <;> exact this
  · cases hf
theorem ok_notN {G : Gb} : PrimOk G (rL2 (fun x y H Q => y = .non ∧ Q (.bl (!decide (x = .non))) H)) fNotN := by
  intro rho F H vs ds d Q s hr hf q
  unfold fNotN at hf
  split at hf
  · rename_i dd
    cases hf
    obtain ⟨v, w, rfl, h1, h2⟩ := repBL2 hr
    cases repB_non h2
    refine ⟨rfl, ?_⟩
    rw [repB_isN h1]
    have := q _ H F (Grow.refl s) (.bl _)
    cases dd <;> exact this
  · cases hf

/-! keys -/
def keyD : D → Option Key
  | .int i => some (.inl i)
  | .str x => some (.inr x)
  | _ => none
def keysD : List D → Option (List Key)
  | [] => some []
  | d :: ds => match keyD d, keysD ds with
    | some k, some ks => some (k :: ks)
    | _, _ => none
def kD : Key → D
  | .inl i => .int i
  | .inr x => .str x
theorem keyD_eq {d : D} {k : Key} (h : keyD d = some k) : d = kD k := by
  unfold keyD at h
  split at h <;> cases h <;> rfl
theorem keyD_kD (k : Key) : keyD (kD k) = some k := by cases k <;> rfl
theorem repB_key {G : Gb} {rho : List Addr} {F H : Hp} {v : V} {d : D} {k : Key} (h : RepB G rho F H v d) (e : keyD d = some k) : v = kV k := by
  cases keyD_eq e
  cases k with
  | inl i => exact repB_int h
  | inr x => exact repB_str h
theorem repL_keys {G : Gb} {rho : List Addr} {F : Hp} : ∀ {vs : List V} {ds : List D} {ks : List Key}, RepL G rho F vs ds → keysD ds = some ks → vs = ks.map kV
  | _, _, _, .nil, h => by cases h; rfl
  | _, d :: ds, _, .cons r l, h => by
    unfold keysD at h
    split at h
    · rename_i k ks h1 h2
      cases h
      rw [repL_keys l h2, List.map_cons, repB_key (H := F) (.inl r) h1]
    · cases h
def lookD {α : Type} [DecidableEq α] : List α → List D → α → Option D
  | k :: ks, v :: vs, x => if k = x then some v else lookD ks vs x
  | _, _, _ => none
theorem lookD_rep {α : Type} [DecidableEq α] {G : Gb} {rho : List Addr} {F : Hp} {k : α} : ∀ {kvs : List (α × V)} {ks : List α} {ds : List D}, kvs.map (·.1) = ks → RepL G rho F (kvs.map (·.2)) ds →
    (∀ d, lookD ks ds k = some d → ∃ v, valV kvs k = some v ∧ Rep G rho F v d) ∧ (valV kvs k).isSome = (lookD ks ds k).isSome
  | [], _, _, rfl, l => by
    cases l
    refine ⟨fun d h => ?_, ?_⟩
    · simp [lookD] at h
    · simp [lookD, valV]
  | kv :: r, _, _, rfl, l => by
    cases l with
    | cons h1 h2 =>
      have ih := lookD_rep (k := k) (kvs := r) rfl h2
      by_cases e : kv.1 = k
      · rw [valV_pos e]
        simp only [List.map_cons, lookD, if_pos e]
        exact ⟨fun d h => by cases h; exact ⟨_, rfl, h1⟩, rfl⟩
      · rw [valV_neg e]
        simp only [List.map_cons, lookD, if_neg e]
        exact ih
def dGetD (d k : D) : Option (Option D) := match d with
  | .dct ks vs => (keyD k).map fun x => lookD ks vs x
  | .dctt ks vs => match k with
    | .tup es => if keyish es = true then (keysD es).map fun x => lookD ks vs x else none
    | _ => none
  | _ => none
/-- what a dict holds -/
theorem dget_of {G : Gb} {rho : List Addr} {F H : Hp} {v w : V} {d k : D} {o : Option D} (s : Sub F H) (h : RepB G rho F H v d) (hk : RepB G rho F H w k) (e : dGetD d k = some o) :
    ∃ a ov, v = .ref a ∧ DGet H a w ov ∧ ov.isSome = o.isSome ∧ ∀ x, o = some x → ∃ y, ov = some y ∧ Rep G rho F y x := by
  unfold dGetD at e
  split at e
  · rename_i ks vs
    cases q : keyD k with
    | none => rw [q] at e; cases e
    | some x =>
      rw [q] at e
      cases e
      obtain ⟨a, kvs, rfl, h1, h2, h3⟩ := repB_dct s h
      obtain ⟨l1, l2⟩ := lookD_rep (k := x) h2 h3
      refine ⟨a, valV kvs x, rfl, .inl ⟨kvs, x, .inl h1, repB_key hk q, rfl⟩, l2, fun y hy => l1 y hy⟩
  · rename_i ks vs
    split at e
    · rename_i es
      split at e
      · rename_i hk2
        cases q : keysD es with
        | none => rw [q] at e; cases e
        | some x =>
          rw [q] at e
          cases e
          obtain ⟨a, kvs, rfl, h1, h2, h3⟩ := repB_dctt s h
          obtain ⟨l1, l2⟩ := lookD_rep (k := x) h2 h3
          rcases hk with hk | ⟨b, t, rfl, ho, et⟩
          · cases hk with
            | @tup b xs _ t1 t3 z t2 =>
              have ex := repL_keys t2 q
              subst ex
              exact ⟨a, valV kvs x, rfl, .inr ⟨kvs, x, b, .inl h1, rfl, s _ _ (t3 hk2), rfl⟩, l2, fun y hy => l1 y hy⟩
          · cases t <;> first | exact ho.elim | cases et
      · cases e
    · cases e
  · cases e
end TM
namespace TM
open PySem PySem.Spec L2
open PyProof.Rows hiding St

/-! in -/
def strIn (x z : Str) : Bool := match x.cps.toList with
  | [c] => decide (c ∈ z.cps.toList)
  | _ => !(Builtin.Str.occurrences z x 0 z.length 1).isEmpty
def rInS2 : R2 := fun x y H Q => ∃ i j, x = .str i ∧ y = .str j ∧ Q (.bl (strIn i j)) H
theorem str_one {x : Str} {c : Nat} (h : x.cps.toList = [c]) : x = ⟨#[c]⟩ := by
  obtain ⟨a⟩ := x
  have : a = #[c] := Array.toList_inj.mp h
  rw [this]
theorem op_inS2 {X : Cx} : OpR X (compareOp .In) rInS2 := by
  intro pins s σ H x y v u Q I rx ry h
  obtain ⟨i, j, rfl, rfl, q⟩ := h
  unfold strIn at q
  split at q
  · rename_i c hc
    cases str_one hc
    exact op_in_sign pins s σ H _ _ v u Q I rx ry ⟨c, j, rfl, rfl, q⟩
  · exact op_in_str pins s σ H _ _ v u Q I rx ry ⟨i, j, rfl, rfl, q⟩
def rNotInS2 : R2 := fun x y H Q => ∃ i j, x = .str i ∧ y = .str j ∧ Q (.bl (!strIn i j)) H
theorem op_notInS2 {X : Cx} : OpR X (compareOp .NotIn) rNotInS2 := by
  intro pins s σ H x y v u Q I rx ry h
  obtain ⟨i, j, rfl, rfl, q⟩ := h
  unfold strIn at q
  split at q
  · rename_i c hc
    cases str_one hc
    exact op_notIn_sign pins s σ H _ _ v u Q I rx ry ⟨c, j, rfl, rfl, q⟩
  · exact op_notIn_str pins s σ H _ _ v u Q I rx ry ⟨i, j, rfl, rfl, q⟩
def rInT (K : PySem.W.Frag) : R2 := fun x y H Q => ∃ d ds, Dp K H x d ∧ Dp K H y (.tuple ds) ∧ SeqAt.shaped d = true ∧ SeqAt.shaped (.tuple ds) = true ∧ Q (.bl (ds.any fun z => PyData.eqv z d)) H
theorem op_inT {X : Cx} (hu : X.A.units + 65 < cLine) : OpR X (compareOp .In) (rInT X.K) := by
  intro pins s σ H x y v u Q I rx ry h
  obtain ⟨d, ds, hd, he, sd, se, q⟩ := h
  obtain ⟨as, r1⟩ := Dp.reads I d x v hd rx
  obtain ⟨bs, r2⟩ := Dp.reads I (.tuple ds) y u he ry
  have c : PyData.canLayAll0 ds = true := by simpa only [PyData.canLay0] using SeqAt.canLay_of_shaped se
  exact SeqAt.in_tuple_reads r2 r1 c (SeqAt.canLay_of_shaped sd) (room_in_shaped sd hu) ⟨.bl _, H, I, rfl, q⟩
def rNotInT (K : PySem.W.Frag) : R2 := fun x y H Q => ∃ d ds, Dp K H x d ∧ Dp K H y (.tuple ds) ∧ SeqAt.shaped d = true ∧ SeqAt.shaped (.tuple ds) = true ∧ Q (.bl (!ds.any fun z => PyData.eqv z d)) H
theorem op_notInT {X : Cx} (hu : X.A.units + 65 < cLine) : OpR X (compareOp .NotIn) (rNotInT X.K) := by
  intro pins s σ H x y v u Q I rx ry h
  obtain ⟨d, ds, hd, he, sd, se, q⟩ := h
  obtain ⟨as, r1⟩ := Dp.reads I d x v hd rx
  obtain ⟨bs, r2⟩ := Dp.reads I (.tuple ds) y u he ry
  have c : PyData.canLayAll0 ds = true := by simpa only [PyData.canLay0] using SeqAt.canLay_of_shaped se
  exact SeqAt.notIn_tuple_reads r2 r1 c (SeqAt.canLay_of_shaped sd) (room_in_shaped sd hu) ⟨.bl _, H, I, rfl, q⟩
def rInK : R2 := fun y x H Q => ∃ a o, x = .ref a ∧ DGet H a y o ∧ Q (.bl o.isSome) H
theorem op_inK {X : Cx} (hu : X.A.units + 65 < cLine) : OpR X (compareOp .In) rInK := by
  intro pins s σ H x y v u Q I rx ry h
  obtain ⟨a, o, rfl, g, q⟩ := h
  cases ry
  exact d_in (by omega) I g rx fun s3 I3 => ⟨.bl o.isSome, H, I3, rfl, q⟩
def rNotInK : R2 := fun y x H Q => ∃ a o, x = .ref a ∧ DGet H a y o ∧ Q (.bl (!o.isSome)) H
theorem op_notInK {X : Cx} (hu : X.A.units + 65 < cLine) : OpR X (compareOp .NotIn) rNotInK := by
  intro pins s σ H x y v u Q I rx ry h
  obtain ⟨a, o, rfl, g, q⟩ := h
  cases ry
  exact d_notIn (by omega) I g rx fun s3 I3 => ⟨.bl (!o.isSome), H, I3, rfl, q⟩
def rInA (K : PySem.W.Frag) : R2 := fun x y H Q => (rInS2 x y H Q ∨ rInK x y H Q) ∨ (rInD K x y H Q ∨ rInT K x y H Q)
theorem op_inA {X : Cx} (hu : X.A.units + 65 < cLine) : OpR X (compareOp .In) (rInA X.K) := opr_or (opr_or op_inS2 (op_inK hu)) (opr_or (op_inD hu) (op_inT hu))
def rNotInA (K : PySem.W.Frag) : R2 := fun x y H Q => (rNotInS2 x y H Q ∨ rNotInK x y H Q) ∨ (rNotInD K x y H Q ∨ rNotInT K x y H Q)
theorem op_notInA {X : Cx} (hu : X.A.units + 65 < cLine) : OpR X (compareOp .NotIn) (rNotInA X.K) := opr_or (opr_or op_notInS2 (op_notInK hu)) (opr_or (op_notInD hu) (op_notInT hu))
def fInB : List D → Option Bool
  | [.str x, .str z] => some (strIn x z)
  | [x, .lst ds] => if x.shp = true ∧ (D.lst ds).shp = true then some (ds.any fun z => PyData.eqv z.py x.py) else none
  | [x, .tup ds] => if x.shp = true ∧ (D.tup ds).shp = true then some (ds.any fun z => PyData.eqv z.py x.py) else none
  | [x, d] => (dGetD d x).map (·.isSome)
  | _ => none
def fIn : PF := fun ds => (fInB ds).map .bl
def fNotIn : PF := fun ds => (fInB ds).map fun b => .bl (!b)
theorem any_py (x : D) (ds : List D) : ((D.pys ds).any fun z => PyData.eqv z x.py) = ds.any fun z => PyData.eqv z.py x.py := by
  rw [D.pys_map, List.any_map]; rfl
theorem in_core {G : Gb} {rho : List Addr} {F H : Hp} {vs : List V} {ds : List D} {b : Bool} (s : Sub F H) (hr : RepBL G rho F H vs ds) (hf : fInB ds = some b) :
    ∃ x y, vs = [x, y] ∧ ((∀ Q : VK, Q (.bl b) H → rInA G.K x y H Q) ∧ ∀ Q : VK, Q (.bl (!b)) H → rNotInA G.K x y H Q) := by
  unfold fInB at hf
  split at hf
  · cases hf
    obtain ⟨v, w, rfl, h1, h2⟩ := repBL2 hr
    cases repB_str h1; cases repB_str h2
    exact ⟨_, _, rfl, fun Q q => .inl (.inl ⟨_, _, rfl, rfl, q⟩), fun Q q => .inl (.inl ⟨_, _, rfl, rfl, q⟩)⟩
  · split at hf
    · rename_i hs
      cases hf
      obtain ⟨v, w, rfl, h1, h2⟩ := repBL2 hr
      rw [← any_py]
      have a1 := h1.dp s (Bool.and_eq_true_iff.mp hs.1).1
      have a2 := h2.dp s (Bool.and_eq_true_iff.mp hs.2).1
      exact ⟨v, w, rfl, fun Q q => .inr (.inl ⟨_, _, a1, a2, D.shaped hs.1, D.shaped hs.2, q⟩), fun Q q => .inr (.inl ⟨_, _, a1, a2, D.shaped hs.1, D.shaped hs.2, q⟩)⟩
    · cases hf
  · split at hf
    · rename_i hs
      cases hf
      obtain ⟨v, w, rfl, h1, h2⟩ := repBL2 hr
      rw [← any_py]
      have a1 := h1.dp s (Bool.and_eq_true_iff.mp hs.1).1
      have a2 := h2.dp s (Bool.and_eq_true_iff.mp hs.2).1
      exact ⟨v, w, rfl, fun Q q => .inr (.inr ⟨_, _, a1, a2, D.shaped hs.1, D.shaped hs.2, q⟩), fun Q q => .inr (.inr ⟨_, _, a1, a2, D.shaped hs.1, D.shaped hs.2, q⟩)⟩
    · cases hf
  · rename_i x d _ _ _
    obtain ⟨v, w, rfl, h1, h2⟩ := repBL2 hr
    cases q0 : dGetD d x with
    | none => rw [q0] at hf; cases hf
    | some o =>
      rw [q0] at hf
      cases hf
      obtain ⟨a, ov, rfl, g, e, _⟩ := dget_of s h2 h1 q0
      refine ⟨_, _, rfl, fun Q q => .inl (.inr ⟨a, ov, rfl, g, ?_⟩), fun Q q => .inl (.inr ⟨a, ov, rfl, g, ?_⟩)⟩
      · rw [e]; exact q
      · rw [e]; exact q
  · cases hf
theorem ok_in {G : Gb} : PrimOk G (rL2 (rInA G.K)) fIn := by
  intro rho F H vs ds d Q s hr hf q
  unfold fIn at hf
  cases h : fInB ds with
  | none => rw [h] at hf; cases hf
  | some b =>
    rw [h] at hf
    cases hf
    obtain ⟨x, y, rfl, k, _⟩ := in_core s hr h
    exact k Q (q _ H F (Grow.refl s) (.bl _))
theorem ok_notIn {G : Gb} : PrimOk G (rL2 (rNotInA G.K)) fNotIn := by
  intro rho F H vs ds d Q s hr hf q
  unfold fNotIn at hf
  cases h : fInB ds with
  | none => rw [h] at hf; cases hf
  | some b =>
    rw [h] at hf
    cases hf
    obtain ⟨x, y, rfl, _, k⟩ := in_core s hr h
    exact k Q (q _ H F (Grow.refl s) (.bl _))

/-! subscripts -/
def rDG : R2 := fun x y H Q => ∃ a v, x = .ref a ∧ DGet H a y (some v) ∧ Q v H
theorem ix_dic {X : Cx} (hu : X.A.units + 65 < cLine) : IxR X rDG := by
  intro value slice pins s σ H x y v u Q I rx ry h hs
  obtain ⟨a, z, rfl, g, q⟩ := h
  cases rx
  exact tail_any (dict_typeIs I g) PySem.F.slot_dict_getitem.lookup (d_getItem (by omega) I g ry fun w' s3 I3 rw' => ⟨z, H, I3, rw', q⟩) hs
def rIxA (K : PySem.W.Frag) : R2 := fun x y H Q => rIx K x y H Q ∨ rDG x y H Q
theorem ix_all {X : Cx} (hu : X.A.units + 65 < cLine) : IxR X (rIxA X.K) := ix_seq.or (ix_dic hu)
def fIx : PF
  | [.lst ds, .int i] => atI ds i
  | [.tup ds, .int i] => atI ds i
  | [.str z, .int i] => if z.length ≤ sizeLine then (atI z.cps.toList i).map fun c => .str ⟨#[c]⟩ else none
  | [d, k] => (dGetD d k).bind id
  | _ => none
theorem atI_rep {G : Gb} {rho : List Addr} {F : Hp} {vs : List V} {ds : List D} {i : Int} {d : D} (l : RepL G rho F vs ds) (h : atI ds i = some d) : ∃ v, atI vs i = some v ∧ Rep G rho F v d := by
  unfold atI at h ⊢
  rw [l.length]
  cases e : ixN ds.length i with
  | none => rw [e] at h; cases h
  | some j =>
    rw [e] at h
    exact l.get h
theorem ok_ix {G : Gb} : PrimOk G (rL2 (rIxA G.K)) fIx := by
  intro rho F H vs ds d Q s hr hf q
  unfold fIx at hf
  split at hf
  · obtain ⟨v, w, rfl, h1, h2⟩ := repBL2 hr
    cases repB_int h2
    obtain ⟨a, xs, rfl, t1, z1, l1⟩ := repB_lst s h1
    obtain ⟨x, e, r⟩ := atI_rep l1 hf
    exact .inl (.inl ⟨a, xs, _, x, rfl, rfl, t1, e, q _ H F (Grow.refl s) r⟩)
  · obtain ⟨v, w, rfl, h1, h2⟩ := repBL2 hr
    cases repB_int h2
    obtain ⟨a, xs, rfl, t1, z1, l1⟩ := repB_tup s h1
    obtain ⟨x, e, r⟩ := atI_rep l1 hf
    exact .inl (.inr (.inl ⟨a, xs, _, x, rfl, rfl, t1, e, q _ H F (Grow.refl s) r⟩))
  · split at hf
    · rename_i hz
      obtain ⟨v, w, rfl, h1, h2⟩ := repBL2 hr
      cases repB_int h2; cases repB_str h1
      obtain ⟨c, hc, rfl⟩ := Option.map_eq_some_iff.mp hf
      exact .inl (.inr (.inr ⟨_, _, c, rfl, rfl, hz, hc, q _ H F (Grow.refl s) (.str _)⟩))
    · cases hf
  · rename_i d0 k _ _ _
    obtain ⟨v, w, rfl, h1, h2⟩ := repBL2 hr
    cases q0 : dGetD d0 k with
    | none => rw [q0] at hf; cases hf
    | some o =>
      rw [q0] at hf
      cases o with
      | none => cases hf
      | some x =>
        cases hf
        obtain ⟨a, ov, rfl, g, _, k⟩ := dget_of s h1 h2 q0
        obtain ⟨y, rfl, r⟩ := k _ rfl
        exact .inr ⟨a, y, rfl, g, q _ H F (Grow.refl s) r⟩
  · cases hf

/-! displays -/
def fTup : PF := fun ds => some (.tup ds)
theorem RepB.frozen {G : Gb} {rho : List Addr} {F H : Hp} {v : V} {d : D} (h : RepB G rho F H v d) (n : ∀ a s, v = .ref a → ¬ OwnAt G rho F H a s) : Rep G rho F v d := by
  rcases h with h | ⟨a, s, e, ho, _⟩
  · exact h
  · exact absurd ho (n a s e)
end TM
namespace TM
open PySem PySem.Spec L2
open PyProof.Rows hiding St

section
variable {G : Gb} {W : WX} {ent : Ent} {e : Env} {S : Sto} {σ : St} {H F H' F' : Hp} {rho rho' : List Addr}
/-- an object is laid that no slot names -/
theorem R.lay (r : R G ent e S σ H F rho) {p : Addr} {o : HO} (hp : H p = none) : R G ent e S σ (upd H p o) F rho where
  len := r.len
  sub := fun a u h => by
    have q := r.sub a u h
    rw [upd_ne (ne_of_none q hp)]; exact q
  val := r.val
  own := fun i s h hs => by
    obtain ⟨a, h1, h2, h3, h4, h5⟩ := r.own i s h hs
    obtain ⟨u, hu⟩ := Option.ne_none_iff_exists'.mp h2.isob
    exact ⟨a, h1, h2.mono (Sub.refl _) (Pre.refl _) (upd_ne (ne_of_none hu hp)), h3, h4, h5⟩
  sep := r.sep
  slen := r.slen
  sto := fun n u a h1 h2 => by
    obtain ⟨q, f⟩ := r.sto n u a h1 h2
    obtain ⟨w, hw⟩ := Option.ne_none_iff_exists'.mp q.isob
    exact ⟨q.mono (Sub.refl _) (Pre.refl _) (upd_ne (ne_of_none hw hp)), f⟩
  nod := r.nod
  keep := fun a u h => by
    obtain ⟨h1, h2, h3⟩ := r.keep a u h
    exact ⟨by rw [upd_ne (ne_of_none h1 hp)]; exact h1, h2, h3⟩
  sub0 := r.sub0
  pre0 := r.pre0
theorem OwnAt.obj {a : Addr} : ∀ {s : Slot}, OwnAt G rho F H a s → ∃ o, H a = some o ∧ Rep G rho (upd F a o) (.ref a) s.frz ∨ F a ≠ none
  | .val _, h => h.elim
  | .own ds, ⟨xs, h1, z, h2⟩ => by
    by_cases q : F a = none
    · refine ⟨_, .inl ⟨h1, .lst (.of upd_same) z (h2.mono (fun b u hb => ?_) (Pre.refl _))⟩⟩
      rw [upd_ne (fun e => by subst e; rw [q] at hb; cases hb)]; exact hb
    · exact ⟨.rng 0 0, .inr q⟩
  | .ownd kvs, ⟨xs, h1, z, h2⟩ => by
    by_cases q : F a = none
    · refine ⟨_, .inl ⟨h1, .dct upd_same z (h2.mono (fun b u hb => ?_) (Pre.refl _))⟩⟩
      rw [upd_ne (fun e => by subst e; rw [q] at hb; cases hb)]; exact hb
    · exact ⟨.rng 0 0, .inr q⟩
  | .ownt kvs, ⟨xs, h1, z, h2⟩ => by
    by_cases q : F a = none
    · refine ⟨_, .inl ⟨h1, .dctt upd_same z (h2.mono (fun b u hb => ?_) (Pre.refl _))⟩⟩
      rw [upd_ne (fun e => by subst e; rw [q] at hb; cases hb)]; exact hb
    · exact ⟨.rng 0 0, .inr q⟩
/-- an object that is not frozen yet, and that no other slot owns, is frozen -/
theorem R.frzAt (r : R G ent e S σ H F rho) {a : Addr} {o : HO} (ha : H a = some o) (hf : F a = none) (h0 : ∀ o, ¬ ent.Pr a o) (hr : a ∉ rho)
    (hn : ∀ (i : Nat) (t : Slot), e[i]? = some (some t) → t.isVal = false → σ[i]? ≠ some (some (.ref a))) : R G ent e S σ H (upd F a o) rho ∧ Sub F (upd F a o) := by
  have sb : Sub F (upd F a o) := fun b u h => by
    rw [upd_ne (fun e => by subst e; rw [hf] at h; cases h)]; exact h
  refine ⟨⟨r.len, fun b u h => ?_, fun i d h => ?_, fun i s h hs => ?_, r.sep, r.slen, fun n u b h1 h2 => ?_, r.nod, fun b u h => ?_, r.sub0.trans sb, r.pre0⟩, sb⟩
  · by_cases e : b = a
    · subst e; rw [upd_same] at h; cases h; exact ha
    · rw [upd_ne e] at h; exact r.sub b u h
  · obtain ⟨v, h1, h2⟩ := r.val i d h
    exact ⟨v, h1, h2.mono sb (Pre.refl _)⟩
  · obtain ⟨b, h1, h2, h3, h4, h5⟩ := r.own i s h hs
    have nb : b ≠ a := fun e => hn i s h hs (e ▸ h1)
    exact ⟨b, h1, h2.mono sb (Pre.refl _) rfl, by rw [upd_ne nb]; exact h3, h4, h5⟩
  · obtain ⟨q, f⟩ := r.sto n u b h1 h2
    have nb : b ≠ a := fun e => hr (e ▸ List.mem_of_getElem? h2)
    exact ⟨q.mono sb (Pre.refl _) rfl, by rw [upd_ne nb]; exact f⟩
  · obtain ⟨k1, k2, k3⟩ := r.keep b u h
    have nb : b ≠ a := fun e => h0 u (e ▸ h)
    exact ⟨k1, by rw [upd_ne nb]; exact k2, k3⟩
theorem get_set {α : Type} {l : List α} {i j : Nat} {a b : α} (h : (l.set i a)[j]? = some b) : (i = j ∧ b = a) ∨ (i ≠ j ∧ l[j]? = some b) := by
  by_cases e : i = j
  · subst e
    by_cases hi : i < l.length
    · rw [List.getElem?_set_self hi] at h; cases h; exact .inl ⟨rfl, rfl⟩
    · rw [List.getElem?_eq_none (by simpa using hi)] at h; cases h
  · rw [List.getElem?_set_ne e] at h; exact .inr ⟨e, h⟩
/-- a slot forgotten -/
theorem R.drop (r : R G ent e S σ H F rho) (i : Nat) : R G ent (e.set i none) S σ H F rho where
  len := by rw [List.length_set]; exact r.len
  sub := r.sub
  val := fun j d h => by
    rcases get_set h with ⟨_, q⟩ | ⟨_, q⟩
    · cases q
    · exact r.val j d q
  own := fun j s h => by
    rcases get_set h with ⟨_, q⟩ | ⟨_, q⟩
    · cases q
    · exact r.own j s q
  sep := fun j k s t a h1 v1 h2 v2 => by
    rcases get_set h1 with ⟨_, q⟩ | ⟨_, q⟩
    · cases q
    · rcases get_set h2 with ⟨_, q2⟩ | ⟨_, q2⟩
      · cases q2
      · exact r.sep j k s t a q v1 q2 v2
  slen := r.slen
  sto := r.sto
  nod := r.nod
  keep := r.keep
  sub0 := r.sub0
  pre0 := r.pre0

/-- what a value is, with the right to it -/
def WRep (G : Gb) (ent : Ent) (rho : List Addr) (F H : Hp) (e : Env) (σ : St) (v : V) : Slot → Prop
  | .val d => Rep G rho F v d
  | s => ∃ a, v = .ref a ∧ OwnAt G rho F H a s ∧ F a = none ∧ (∀ o, ¬ ent.Pr a o) ∧ a ∉ rho ∧ ∀ (i : Nat) (t : Slot), e[i]? = some (some t) → t.isVal = false → σ[i]? ≠ some (some (.ref a))
theorem WRep.own_of {v : V} {s : Slot} (h : WRep G ent rho F H e σ v s) (hs : s.isVal = false) : ∃ a, v = .ref a ∧ OwnAt G rho F H a s ∧ F a = none ∧ (∀ o, ¬ ent.Pr a o) ∧ a ∉ rho ∧ ∀ (i : Nat) (t : Slot), e[i]? = some (some t) → t.isVal = false → σ[i]? ≠ some (some (.ref a)) := by
  cases s with
  | val _ => cases hs
  | own _ => exact h
  | ownd _ => exact h
  | ownt _ => exact h
theorem WRep.of_own {v : V} {s : Slot} (hs : s.isVal = false) (h : ∃ a, v = .ref a ∧ OwnAt G rho F H a s ∧ F a = none ∧ (∀ o, ¬ ent.Pr a o) ∧ a ∉ rho ∧ ∀ (i : Nat) (t : Slot), e[i]? = some (some t) → t.isVal = false → σ[i]? ≠ some (some (.ref a))) : WRep G ent rho F H e σ v s := by
  cases s with
  | val _ => cases hs
  | own _ => exact h
  | ownd _ => exact h
  | ownt _ => exact h
/-- a value is frozen -/
theorem R.frz (r : R G ent e S σ H F rho) {v : V} {s : Slot} (h : WRep G ent rho F H e σ v s) : ∃ F', Sub F F' ∧ R G ent e S σ H F' rho ∧ Rep G rho F' v s.frz := by
  by_cases hs : s.isVal = true
  · cases s with
    | val d => exact ⟨F, Sub.refl _, r, h⟩
    | own _ => cases hs
    | ownd _ => cases hs
    | ownt _ => cases hs
  · obtain ⟨a, rfl, ho, hf, h0, hr, hn⟩ := h.own_of (by simpa using hs)
    obtain ⟨o, ⟨q1, q2⟩ | q⟩ := ho.obj
    · obtain ⟨r', sb⟩ := r.frzAt q1 hf h0 hr hn
      exact ⟨_, sb, r', q2⟩
    · exact absurd hf q
/-- a slot is read as a value: an owned object is frozen -/
theorem R.read (r : R G ent e S σ H F rho) {i : Nat} {s : Slot} (h : e[i]? = some (some s)) (hs : s.isVal = false) :
    ∃ F' v, Sub F F' ∧ R G ent (e.set i (some (.val s.frz))) S σ H F' rho ∧ σ[i]? = some (some v) ∧ Rep G rho F' v s.frz := by
  obtain ⟨a, h1, h2, h3, h4, h5⟩ := r.own i s h hs
  have r1 := r.drop i
  have hi : i < e.length := (List.getElem?_eq_some_iff.mp h).1
  obtain ⟨o, ⟨q1, q2⟩ | q⟩ := h2.obj
  · obtain ⟨r2, sb⟩ := r1.frzAt q1 h3 h4 h5 fun j t hj ht hj2 => by
      rcases get_set hj with ⟨_, q⟩ | ⟨ne, q⟩
      · cases q
      · exact ne (r.sep i j s t a h hs q ht h1 hj2)
    refine ⟨_, .ref a, sb, ⟨?_, r2.sub, fun j d hj => ?_, fun j t hj ht => ?_, fun j k t u b hj ht hk hu => ?_, r2.slen, r2.sto, r2.nod, r2.keep, r2.sub0, r2.pre0⟩, h1, q2⟩
    · rw [List.length_set]; exact r.len
    · rcases get_set hj with ⟨e1, q⟩ | ⟨ne, q⟩
      · subst e1; cases q; exact ⟨_, h1, q2⟩
      · exact r2.val j d (by rw [List.getElem?_set_ne ne]; exact q)
    · rcases get_set hj with ⟨e1, q⟩ | ⟨ne, q⟩
      · cases q; cases ht
      · exact r2.own j t (by rw [List.getElem?_set_ne ne]; exact q) ht
    · rcases get_set hj with ⟨e1, q⟩ | ⟨ne, q⟩
      · cases q; cases ht
      · rcases get_set hk with ⟨e1, q'⟩ | ⟨ne', q'⟩
        · cases q'; cases hu
        · exact r.sep j k t u b q ht q' hu
  · exact absurd h3 q
/-- a slot is stored -/
theorem R.setW (r : R G ent e S σ H F rho) {v : V} {s : Slot} (h : WRep G ent rho F H e σ v s) (i : Nat) : R G ent (e.set i (some s)) S (σ.set i (some v)) H F rho where
  len := by rw [List.length_set, List.length_set]; exact r.len
  sub := r.sub
  val := fun j d hj => by
    rcases get_set hj with ⟨e1, q⟩ | ⟨ne, q⟩
    · subst e1
      cases q
      have hi : i < σ.length := by
        have := (List.getElem?_eq_some_iff.mp hj).1
        rw [List.length_set, r.len] at this; exact this
      exact ⟨v, List.getElem?_set_self hi, h⟩
    · obtain ⟨v', h1, h2⟩ := r.val j d q
      exact ⟨v', by rw [List.getElem?_set_ne ne]; exact h1, h2⟩
  own := fun j t hj ht => by
    rcases get_set hj with ⟨e1, q⟩ | ⟨ne, q⟩
    · subst e1
      cases q
      have hi : i < σ.length := by
        have := (List.getElem?_eq_some_iff.mp hj).1
        rw [List.length_set, r.len] at this; exact this
      obtain ⟨a, rfl, ho, hf, h0, hr, _⟩ := h.own_of ht
      exact ⟨a, List.getElem?_set_self hi, ho, hf, h0, hr⟩
    · obtain ⟨a, h1, h2⟩ := r.own j t q ht
      exact ⟨a, by rw [List.getElem?_set_ne ne]; exact h1, h2⟩
  sep := fun j k t u b hj ht hk hu sj sk => by
    rcases get_set hj with ⟨e1, q⟩ | ⟨ne, q⟩
    · subst e1
      rcases get_set hk with ⟨e2, q2⟩ | ⟨ne2, q2⟩
      · exact e2
      · cases q
        obtain ⟨a, rfl, ho, hf, h0, hr, hn⟩ := h.own_of ht
        have hi : i < σ.length := by
          have := (List.getElem?_eq_some_iff.mp hj).1
          rw [List.length_set, r.len] at this; exact this
        rw [List.getElem?_set_self hi] at sj
        cases sj
        rw [List.getElem?_set_ne ne2] at sk
        exact absurd sk (hn k u q2 hu)
    · rcases get_set hk with ⟨e2, q2⟩ | ⟨ne2, q2⟩
      · subst e2
        cases q2
        obtain ⟨a, rfl, ho, hf, h0, hr, hn⟩ := h.own_of hu
        have hi : i < σ.length := by
          have := (List.getElem?_eq_some_iff.mp hk).1
          rw [List.length_set, r.len] at this; exact this
        rw [List.getElem?_set_self hi] at sk
        cases sk
        rw [List.getElem?_set_ne ne] at sj
        exact absurd sj (hn j t q ht)
      · rw [List.getElem?_set_ne ne] at sj
        rw [List.getElem?_set_ne ne2] at sk
        exact r.sep j k t u b q ht q2 hu sj sk
  slen := r.slen
  sto := r.sto
  nod := r.nod
  keep := r.keep
  sub0 := r.sub0
  pre0 := r.pre0
/-- a new list is its maker's own -/
theorem R.newL (r : R G ent e S σ H F rho) {p : Addr} {xs : List V} {ds : List D} (hp : H p = none) (z : xs.length ≤ sizeLine) (l : RepL G rho F xs ds) :
    R G ent e S σ (upd H p (.lst xs)) F rho ∧ WRep G ent rho F (upd H p (.lst xs)) e σ (.ref p) (.own ds) := by
  refine ⟨r.lay hp, p, rfl, ⟨xs, upd_same, z, l⟩, ?_, r.fresh hp, fun m => ?_, fun i t h ht q => ?_⟩
  · cases q : F p with
    | none => rfl
    | some o => rw [r.sub p o q] at hp; cases hp
  · exact (r.rhoSome m).1 hp
  · obtain ⟨a, h1, h2, _⟩ := r.own i t h ht
    rw [h1] at q; cases q
    exact h2.isob hp
end

/-! expressions that keep the right to what they make -/
abbrev Wx := Env → Sto → Out Slot
def postW (G : Gb) (W : WX) (ent : Ent) (σ : St) (F : Hp) (rho : List Addr) (Q : VK) : Out Slot → Prop
  | .ok s e S => ∀ (v : V) (H' F' : Hp) (rho' : List Addr), R G ent e S σ H' F' rho' → Sub F F' → Pre rho rho' → WRep G ent rho' F' H' e σ v s → Q v H'
  | .exc x e S => postX G W ent σ F rho x e S
  | .stuck => False
def rdW (G : Gb) (W : WX) (ent : Ent) (m : Wx) : TE := fun σ H Q => ∃ (e : Env) (S : Sto) (F : Hp) (rho : List Addr), R G ent e S σ H F rho ∧ postW G W ent σ F rho Q (m e S)
def wVal (m : Ex) : Wx := fun e S => (m e S).bind fun d e S => .ok (.val d) e S
def eFrz (m : Wx) : Ex := fun e S => (m e S).bind fun s e S => .ok s.frz e S
section
variable {G : Gb} {W : WX} {ent : Ent} {σ : St} {H : Hp} {Q : VK}
theorem rdW_val {m : Ex} (h : rdW G W ent (wVal m) σ H Q) : rdE G W ent m σ H Q := by
  obtain ⟨e, S, F, rho, hR, hp⟩ := h
  refine ⟨e, S, F, rho, hR, ?_⟩
  unfold wVal at hp
  cases q : m e S with
  | ok d e1 S1 => rw [q] at hp; exact fun v H' F' rho' r s p k => hp v H' F' rho' r s p k
  | exc x e1 S1 => rw [q] at hp; exact hp
  | stuck => rw [q] at hp; exact hp
theorem rdE_frz {m : Wx} (h : rdE G W ent (eFrz m) σ H Q) : rdW G W ent m σ H Q := by
  obtain ⟨e, S, F, rho, hR, hp⟩ := h
  refine ⟨e, S, F, rho, hR, ?_⟩
  unfold eFrz at hp
  cases q : m e S with
  | ok s e1 S1 =>
    rw [q] at hp
    intro v H' F' rho' r sb p k
    obtain ⟨F2, s2, r2, k2⟩ := r.frz k
    exact hp v H' F2 rho' r2 (sb.trans s2) p k2
  | exc x e1 S1 => rw [q] at hp; exact hp
  | stuck => rw [q] at hp; exact hp
end
/-- a primitive that makes a new list -/
def wPrim (f : PF) (os : List Opr) : Wx := fun e S => (evR os e S).bind fun ds e S => match f ds with
  | some (.lst es) => .ok (.own es) e S
  | some d => .ok (.val d) e S
  | none => .stuck
theorem primW_of {G : Gb} {W : WX} {ent : Ent} {r : List V → Hp → VK → Prop} {f : PF} {os : List Opr} {σ : St} {H : Hp} {Q : VK} (hf : PrimFr G r f) (h : rdW G W ent (wPrim f os) σ H Q) : tOs G W ent os σ H (fun vs H' => r vs H' Q) := by
  obtain ⟨e, S, F, rho, hR, hp⟩ := h
  refine tOs_R hR ?_
  unfold wPrim at hp
  cases q : evR os e S with
  | ok ds e1 S1 =>
    rw [q] at hp
    intro vs H' F' rho' hR' s p hr
    have hp : postW G W ent σ F rho Q (match f ds with
      | some (.lst es) => .ok (.own es) e1 S1
      | some d => .ok (.val d) e1 S1
      | none => .stuck) := hp
    cases q2 : f ds with
    | none => rw [q2] at hp; exact hp.elim
    | some d =>
      rw [q2] at hp
      refine hf hR'.sub hr q2 ?_
      have gen : ∀ d', (postW G W ent σ F rho Q (.ok (.val d') e1 S1)) → ∀ v H1 F1, Grow H' F' H1 F1 → Rep G rho' F1 v d' → Q v H1 := fun d' hp v H2 F2 g r2 =>
        hp v H2 F2 rho' (hR'.grow g) (s.trans (g.sub hR'.sub)) p r2
      cases d with
      | lst es =>
        intro p0 xs H1 F1 g hp0 z l
        obtain ⟨a, b⟩ := (hR'.grow g).newL hp0 z l
        exact hp _ _ F1 rho' a (s.trans (g.sub hR'.sub)) p b
      | _ => exact gen _ hp
  | exc x e1 S1 => rw [q] at hp; exact hp
  | stuck => rw [q] at hp; exact hp
end TM
namespace TM
open PySem PySem.Spec L2
open PyProof.Rows hiding St

abbrev _root_.L2.Cx.gb (X : Cx) : Gb := ⟨X.K, X.mg⟩

def bC (d : D) : Ex := fun e S => .ok d e S
def bVar (i : Nat) : Ex := fun e S => match e[i]? with
  | some (some (.val d)) => .ok d e S
  | some (some s) => .ok s.frz (e.set i (some (.val s.frz))) S
  | _ => .stuck
section
variable {X : Cx} {W : WX} {ent : Ent}
theorem sem_const {x : Expr} {v : V} {d : D} (h : PE X x (tC v)) (r : ∀ rho F, Rep X.gb rho F v d) : PE X x (rdE X.gb W ent (bC d)) :=
  h.weak fun σ H Q ⟨e, S, F, rho, hR, hp⟩ => hp v H F rho hR (Sub.refl _) (Pre.refl _) (r rho F)
theorem sem_var {x : Expr} {i : Nat} (h : PE X x (tVar i)) : PE X x (rdE X.gb W ent (bVar i)) := h.weak fun σ H Q ⟨e, S, F, rho, hR, hp⟩ => by
  have hp : postE X.gb W ent σ F rho Q (match e[i]? with
    | some (some (.val d)) => .ok d e S
    | some (some s) => .ok s.frz (e.set i (some (.val s.frz))) S
    | _ => .stuck) := hp
  split at hp
  · rename_i d hd
    obtain ⟨v, h1, h2⟩ := hR.val i d hd
    exact ⟨v, h1, hp v H F rho hR (Sub.refl _) (Pre.refl _) h2⟩
  · rename_i s hn hs
    have hv : s.isVal = false := by
      cases s with
      | val d => exact (hn d rfl).elim
      | own _ => rfl
      | ownd _ => rfl
      | ownt _ => rfl
    obtain ⟨F', v, sb, r2, h1, h2⟩ := hR.read hs hv
    exact ⟨v, h1, hp v H F' rho r2 sb (Pre.refl _) h2⟩
  · exact hp.elim
/-- an operand's syntax -/
def OpE (X : Cx) (W : WX) (ent : Ent) (x : Expr) (o : Opr) : Prop := PE X x (tO X.gb W ent o)
inductive OpsE (X : Cx) (W : WX) (ent : Ent) : List Expr → List Opr → Prop
  | nil : OpsE X W ent [] []
  | cons {x : Expr} {o : Opr} {es : List Expr} {os : List Opr} : OpE X W ent x o → (∀ es', starEach (x :: es') X.env = (false, eval x X.env) :: starEach es' X.env) → OpsE X W ent es os → OpsE X W ent (x :: es) (o :: os)
theorem pa_ops : ∀ {es : List Expr} {os : List Opr}, OpsE X W ent es os → PA X es (tOs X.gb W ent os)
  | _, _, .nil => pa_nil
  | _, _, .cons h hs t => pa_cons h (pa_ops t) (hs _)
/-- a binary operation -/
theorem sem_bin {a b : Expr} {oa ob : Opr} {op : Operator} {pos : Pos} {r : R2} {f : PF} (ho : OpR X (binaryOp op) r) (hf : PrimOk X.gb (rL2 r) f) (ha : OpE X W ent a oa) (hb : OpE X W ent b ob) :
    PE X (.BinOp a op b pos) (rdE X.gb W ent (bPrim f [oa, ob])) := (pe_op ho ha hb).weak fun σ H Q h => prim_of hf h
theorem semW_bin {a b : Expr} {oa ob : Opr} {op : Operator} {pos : Pos} {r : R2} {f : PF} (ho : OpR X (binaryOp op) r) (hf : PrimFr X.gb (rL2 r) f) (ha : OpE X W ent a oa) (hb : OpE X W ent b ob) :
    PE X (.BinOp a op b pos) (rdW X.gb W ent (wPrim f [oa, ob])) := (pe_op ho ha hb).weak fun σ H Q h => primW_of hf h
theorem sem_cmp {a b : Expr} {oa ob : Opr} {op : CmpOp} {pos : Pos} {r : R2} {f : PF} (ho : OpR X (compareOp op) r) (hf : PrimOk X.gb (rL2 r) f) (ha : OpE X W ent a oa) (hb : OpE X W ent b ob) (hm : behindInMarks op b = false) :
    PE X (.Compare a [op] [b] pos) (rdE X.gb W ent (bPrim f [oa, ob])) := (pe_cmpR ho ha hb hm).weak fun σ H Q h => prim_of hf h
theorem sem_ix {a b : Expr} {oa ob : Opr} {pos : Pos} {r : R2} {f : PF} (ho : IxR X r) (hf : PrimOk X.gb (rL2 r) f) (ha : OpE X W ent a oa) (hb : OpE X W ent b ob) (hx : PlainIx b) :
    PE X (.Subscript a b pos) (rdE X.gb W ent (bPrim f [oa, ob])) := (pe_ix ho ha hb hx).weak fun σ H Q h => prim_of hf h
/-- one value -/
def rL1 (r : V → Hp → VK → Prop) : List V → Hp → VK → Prop := fun vs H Q => match vs with
  | [x] => r x H Q
  | _ => False
theorem sem_un {a : Expr} {oa : Opr} {op : UnaryOp} {pos : Pos} {r : V → Hp → VK → Prop} {f : PF} (ho : UnR X (unaryOp op) r) (hf : PrimOk X.gb (rL1 r) f) (ha : OpE X W ent a oa) :
    PE X (.UnaryOp op a pos) (rdE X.gb W ent (bPrim f [oa])) := (pe_un ho ha).weak fun σ H Q h => prim_of hf h
theorem sem_callB {x : Str} {p pos : Pos} {es : List Expr} {os : List Opr} {id : String} {r : List V → Hp → VK → Prop} {f : PF} {e : Expr} (hc : CallR X (.builtin id) r) (hf : PrimOk X.gb r f) (hg : Gl X x) (hm : X.mg x = none) (hv : bootBuiltins x = some (.builtin id))
    (ha : PA X (e :: es) (tOs X.gb W ent os)) (hn : x ≠ "__name__") (hdb : (x == ("__debug__" : Str)) = false) (he : starEach (e :: es) X.env = (false, eval e X.env) :: starEach es X.env) (hpl : (backTo pos (starEach es X.env)).any (·.1) = false) :
    PE X (.Call (.Name x p) (e :: es) [] pos) (rdE X.gb W ent (bPrim f os)) := (pe_callB hc hg hm hv ha hn hdb he hpl).weak fun σ H Q h => prim_of hf h
theorem sem_callTy {x : Str} {p pos : Pos} {es : List Expr} {os : List Opr} {T : String} {r : List V → Hp → VK → Prop} {f : PF} {e : Expr} (hc : CallR X (.type T) r) (hf : PrimOk X.gb r f) (hg : Gl X x) (hm : X.mg x = none) (hv : bootBuiltins x = some (.type T))
    (ha : PA X (e :: es) (tOs X.gb W ent os)) (hn : x ≠ "__name__") (hdb : (x == ("__debug__" : Str)) = false) (he : starEach (e :: es) X.env = (false, eval e X.env) :: starEach es X.env) (hpl : (backTo pos (starEach es X.env)).any (·.1) = false) :
    PE X (.Call (.Name x p) (e :: es) [] pos) (rdE X.gb W ent (bPrim f os)) := (pe_callTy hc hg hm hv ha hn hdb he hpl).weak fun σ H Q h => prim_of hf h
theorem semW_callTy {x : Str} {p pos : Pos} {es : List Expr} {os : List Opr} {T : String} {r : List V → Hp → VK → Prop} {f : PF} {e : Expr} (hc : CallR X (.type T) r) (hf : PrimFr X.gb r f) (hg : Gl X x) (hm : X.mg x = none) (hv : bootBuiltins x = some (.type T))
    (ha : PA X (e :: es) (tOs X.gb W ent os)) (hn : x ≠ "__name__") (hdb : (x == ("__debug__" : Str)) = false) (he : starEach (e :: es) X.env = (false, eval e X.env) :: starEach es X.env) (hpl : (backTo pos (starEach es X.env)).any (·.1) = false) :
    PE X (.Call (.Name x p) (e :: es) [] pos) (rdW X.gb W ent (wPrim f os)) := (pe_callTy hc hg hm hv ha hn hdb he hpl).weak fun σ H Q h => primW_of hf h
end

/-! truth -/
def D.tru : D → Option Bool
  | .non => some false
  | .bl b => some b
  | .int i => some (i != 0)
  | .str x => if x.length ≤ sizeLine then some ((x.length : Int) != 0) else none
  | .lst ds => some (!ds.isEmpty)
  | .tup ds => some (!ds.isEmpty)
  | .dct ks _ => some (!ks.isEmpty)
  | _ => none
theorem isEmpty_len {α β : Type} {l : List α} {m : List β} (h : l.length = m.length) : l.isEmpty = m.isEmpty := by
  cases l <;> cases m <;> simp at h ⊢
theorem tru_of {G : Gb} {rho : List Addr} {F H : Hp} {v : V} {d : D} {k : Bool} (s : Sub F H) (h : RepB G rho F H v d) (e : d.tru = some k) : TruV G.K v H k := by
  unfold D.tru at e
  split at e
  · cases e; cases repB_non h; rfl
  · cases e; cases repB_bl h; rfl
  · cases e; cases repB_int h; rfl
  · split at e
    · rename_i hz
      cases e; cases repB_str h; exact ⟨hz, rfl⟩
    · cases e
  · cases e
    obtain ⟨a, xs, rfl, t, _, l⟩ := repB_lst s h
    exact .inl ⟨xs, t, by rw [isEmpty_len l.length]⟩
  · cases e
    obtain ⟨a, xs, rfl, t, _, l⟩ := repB_tup s h
    exact .inr (.inl ⟨xs, t, by rw [isEmpty_len l.length]⟩)
  · cases e
    obtain ⟨a, kvs, rfl, t, e2, l⟩ := repB_dct s h
    exact .inr (.inr ⟨kvs, t, by subst e2; rw [isEmpty_len (l := kvs.map (·.1)) (m := kvs) (by simp)]⟩)
  · cases e

/-- a test -/
abbrev Tx := Env → Sto → Out Bool
def postT (G : Gb) (W : WX) (ent : Ent) (σ : St) (F : Hp) (rho : List Addr) (Q : Bool → Hp → Prop) : Out Bool → Prop
  | .ok b e S => ∀ (H' F' : Hp) (rho' : List Addr), R G ent e S σ H' F' rho' → Sub F F' → Pre rho rho' → Q b H'
  | .exc x e S => postX G W ent σ F rho x e S
  | .stuck => False
def rdT (G : Gb) (W : WX) (ent : Ent) (m : Tx) : TT := fun σ H Q => ∃ (e : Env) (S : Sto) (F : Hp) (rho : List Addr), R G ent e S σ H F rho ∧ postT G W ent σ F rho Q (m e S)
section
variable {G : Gb} {W : WX} {ent : Ent} {σ : St} {F F' : Hp} {rho rho' : List Addr}
theorem postT.mono {Q : Bool → Hp → Prop} {o : Out Bool} (s : Sub F F') (p : Pre rho rho') (h : postT G W ent σ F rho Q o) : postT G W ent σ F' rho' Q o := by
  cases o with
  | ok b e S => exact fun H2 F2 r2 hR hs hp => h H2 F2 r2 hR (s.trans hs) (p.trans hp)
  | exc x e S => exact postX.mono s p h
  | stuck => exact h
theorem postE.mono {Q : VK} {o : Out D} (s : Sub F F') (p : Pre rho rho') (h : postE G W ent σ F rho Q o) : postE G W ent σ F' rho' Q o := by
  cases o with
  | ok b e S => exact fun v H2 F2 r2 hR hs hp => h v H2 F2 r2 hR (s.trans hs) (p.trans hp)
  | exc x e S => exact postX.mono s p h
  | stuck => exact h
theorem postW.mono {Q : VK} {o : Out Slot} (s : Sub F F') (p : Pre rho rho') (h : postW G W ent σ F rho Q o) : postW G W ent σ F' rho' Q o := by
  cases o with
  | ok b e S => exact fun v H2 F2 r2 hR hs hp => h v H2 F2 r2 hR (s.trans hs) (p.trans hp)
  | exc x e S => exact postX.mono s p h
  | stuck => exact h
end
/-- the truth of an operand's value -/
def tTru (o : Opr) : Tx := fun e S => (evR [o] e S).bind fun ds e S => match ds with
  | [d] => match d.tru with
    | some b => .ok b e S
    | none => .stuck
  | _ => .stuck
def tBool (m : Ex) : Tx := fun e S => (m e S).bind fun d e S => match d with
  | .bl b => .ok b e S
  | _ => .stuck
section
variable {X : Cx} {W : WX} {ent : Ent} {a b c : Expr} {pos : Pos}
theorem ops_one {o : Opr} {σ : St} {H : Hp} {Q : V → Hp → Prop} {e : Env} {S : Sto} {F : Hp} {rho : List Addr} {G : Gb} (hR : R G ent e S σ H F rho) (h : postL G W ent σ F rho (fun vs H' => match vs with | [x] => Q x H' | _ => False) (evR [o] e S)) : tO G W ent o σ H Q := tOs_R (os := [o]) hR h
theorem semT_tru {o : Opr} (ha : OpE X W ent a o) (he : ∀ whole, isTrue a X.env whole = (do let v ← whole; standAt a.pos; holding [v] (truthy v))) : PT X a (rdT X.gb W ent (tTru o)) :=
  (pt_truth ha he).weak fun σ H Q ⟨e, S, F, rho, hR, hp⟩ => by
    refine ops_one hR ?_
    unfold tTru at hp
    cases q : evR [o] e S with
    | ok ds e1 S1 =>
      rw [q] at hp
      intro vs H' F' rho' hR' s p hr
      cases hr with
      | nil => exact hp.elim
      | cons h1 t =>
        cases t with
        | cons _ _ => exact hp.elim
        | nil =>
          rename_i d
          have hp : postT X.gb W ent σ F rho Q (match d.tru with
            | some b => .ok b e1 S1
            | none => .stuck) := hp
          split at hp
          · rename_i k hk
            exact ⟨k, tru_of hR'.sub h1 hk, hp H' F' rho' hR' s p⟩
          · exact hp.elim
    | exc x e1 S1 => rw [q] at hp; exact hp
    | stuck => rw [q] at hp; exact hp
/-- an expression that gives a bool, as a test -/
theorem semT_bool {m : Ex} (ha : PE X a (rdE X.gb W ent m)) (h : ∀ {t : TE}, PE X a t → PT X a (tTest t)) : PT X a (rdT X.gb W ent (tBool m)) :=
  (h ha).weak fun σ H Q ⟨e, S, F, rho, hR, hp⟩ => by
    refine ⟨e, S, F, rho, hR, ?_⟩
    unfold tBool at hp
    cases q : m e S with
    | ok d e1 S1 =>
      rw [q] at hp
      intro v H' F' rho' r s p k
      cases d with
      | bl b => cases k; exact ⟨b, rfl, hp H' F' rho' r s p⟩
      | _ => exact hp.elim
    | exc x e1 S1 => rw [q] at hp; exact hp
    | stuck => rw [q] at hp; exact hp
theorem semT_cmp {oa ob : Opr} {op : CmpOp} {r : R2} {f : PF} (ho : OpR X (compareOp op) r) (hf : PrimOk X.gb (rL2 r) f) (ha : OpE X W ent a oa) (hb : OpE X W ent b ob) (hm : behindInMarks op b = false) :
    PT X (.Compare a [op] [b] pos) (rdT X.gb W ent (tBool (bPrim f [oa, ob]))) := (pt_cmpR ho ha hb hm).weak fun σ H Q ⟨e, S, F, rho, hR, hp⟩ => by
  refine prim_of (W := W) (ent := ent) (os := [oa, ob]) (Q := fun x H' => ∃ k, x = .bl k ∧ Q k H') hf ⟨e, S, F, rho, hR, ?_⟩
  unfold tBool at hp
  cases q : bPrim f [oa, ob] e S with
  | ok d e1 S1 =>
    rw [q] at hp
    intro v H' F' rho' r s p k
    cases d with
    | bl b => cases k; exact ⟨b, rfl, hp H' F' rho' r s p⟩
    | _ => exact hp.elim
  | exc x e1 S1 => rw [q] at hp; exact hp
  | stuck => rw [q] at hp; exact hp
def tNotB (m : Tx) : Tx := fun e S => (m e S).bind fun b e S => .ok (!b) e S
theorem semT_not {m : Tx} (ha : PT X a (rdT X.gb W ent m)) : PT X (.UnaryOp .Not a pos) (rdT X.gb W ent (tNotB m)) := (pt_not ha).weak fun σ H Q ⟨e, S, F, rho, hR, hp⟩ => by
  refine ⟨e, S, F, rho, hR, ?_⟩
  unfold tNotB at hp
  cases q : m e S with
  | ok d e1 S1 => rw [q] at hp; exact hp
  | exc x e1 S1 => rw [q] at hp; exact hp
  | stuck => rw [q] at hp; exact hp
def tAndB (m n : Tx) : Tx := fun e S => (m e S).bind fun b e S => if b = true then n e S else .ok false e S
def tOrB (m n : Tx) : Tx := fun e S => (m e S).bind fun b e S => if b = true then .ok true e S else n e S
theorem semW_one {op : BoolOp} {m : Tx} (ha : PT X a (rdT X.gb W ent m)) : PW X (.BoolOp op [a] pos) (rdT X.gb W ent m) := by
  cases op with
  | And => exact pw_and1 ha
  | Or => exact pw_or1 ha
theorem semW_and {m n : Tx} {rest : List Expr} (ha : PT X a (rdT X.gb W ent m)) (hb : PW X (.BoolOp .And (b :: rest) pos) (rdT X.gb W ent n)) : PW X (.BoolOp .And (a :: b :: rest) pos) (rdT X.gb W ent (tAndB m n)) :=
  (pw_and ha hb).weak fun σ H Q ⟨e, S, F, rho, hR, hp⟩ => by
    refine ⟨e, S, F, rho, hR, ?_⟩
    unfold tAndB at hp
    cases q : m e S with
    | ok d e1 S1 =>
      rw [q] at hp
      intro H' F' rho' r s p
      cases d with
      | true => exact ⟨e1, S1, F', rho', r, postT.mono s p hp⟩
      | false => exact hp H' F' rho' r s p
    | exc x e1 S1 => rw [q] at hp; exact hp
    | stuck => rw [q] at hp; exact hp
theorem semW_or {m n : Tx} {rest : List Expr} (ha : PT X a (rdT X.gb W ent m)) (hb : PW X (.BoolOp .Or (b :: rest) pos) (rdT X.gb W ent n)) : PW X (.BoolOp .Or (a :: b :: rest) pos) (rdT X.gb W ent (tOrB m n)) :=
  (pw_or ha hb).weak fun σ H Q ⟨e, S, F, rho, hR, hp⟩ => by
    refine ⟨e, S, F, rho, hR, ?_⟩
    unfold tOrB at hp
    cases q : m e S with
    | ok d e1 S1 =>
      rw [q] at hp
      intro H' F' rho' r s p
      cases d with
      | false => exact ⟨e1, S1, F', rho', r, postT.mono s p hp⟩
      | true => exact hp H' F' rho' r s p
    | exc x e1 S1 => rw [q] at hp; exact hp
    | stuck => rw [q] at hp; exact hp

/-! and, or, not, if as values -/
def bAnd (m n : Ex) : Ex := fun e S => (m e S).bind fun d e S => match d.tru with
  | some true => n e S
  | some false => .ok d e S
  | none => .stuck
def bOr (m n : Ex) : Ex := fun e S => (m e S).bind fun d e S => match d.tru with
  | some true => .ok d e S
  | some false => n e S
  | none => .stuck
def bNot (m : Ex) : Ex := fun e S => (m e S).bind fun d e S => match d.tru with
  | some b => .ok (.bl (!b)) e S
  | none => .stuck
def bIf (t : Tx) (m n : Ex) : Ex := fun e S => (t e S).bind fun b e S => if b = true then m e S else n e S
def wIf (t : Tx) (m n : Wx) : Wx := fun e S => (t e S).bind fun b e S => if b = true then m e S else n e S
theorem sem_one {op : BoolOp} {m : Ex} (ha : PE X a (rdE X.gb W ent m)) : PE X (.BoolOp op [a] pos) (rdE X.gb W ent m) := pe_one ha
theorem sem_and {m n : Ex} {rest : List Expr} (ha : PE X a (rdE X.gb W ent m)) (hb : PE X (.BoolOp .And (b :: rest) pos) (rdE X.gb W ent n)) : PE X (.BoolOp .And (a :: b :: rest) pos) (rdE X.gb W ent (bAnd m n)) :=
  (pe_andT ha hb).weak fun σ H Q ⟨e, S, F, rho, hR, hp⟩ => by
    refine ⟨e, S, F, rho, hR, ?_⟩
    unfold bAnd at hp
    cases q : m e S with
    | ok d e1 S1 =>
      rw [q] at hp
      intro v H' F' rho' r s p k
      have hp : postE X.gb W ent σ F rho Q (match d.tru with
        | some true => n e1 S1
        | some false => .ok d e1 S1
        | none => .stuck) := hp
      split at hp
      · rename_i hd
        exact ⟨true, tru_of r.sub (.inl k) hd, e1, S1, F', rho', r, postE.mono s p hp⟩
      · rename_i hd
        exact ⟨false, tru_of r.sub (.inl k) hd, hp v H' F' rho' r s p k⟩
      · exact hp.elim
    | exc x e1 S1 => rw [q] at hp; exact hp
    | stuck => rw [q] at hp; exact hp
theorem sem_or {m n : Ex} {rest : List Expr} (ha : PE X a (rdE X.gb W ent m)) (hb : PE X (.BoolOp .Or (b :: rest) pos) (rdE X.gb W ent n)) : PE X (.BoolOp .Or (a :: b :: rest) pos) (rdE X.gb W ent (bOr m n)) :=
  (pe_orT ha hb).weak fun σ H Q ⟨e, S, F, rho, hR, hp⟩ => by
    refine ⟨e, S, F, rho, hR, ?_⟩
    unfold bOr at hp
    cases q : m e S with
    | ok d e1 S1 =>
      rw [q] at hp
      intro v H' F' rho' r s p k
      have hp : postE X.gb W ent σ F rho Q (match d.tru with
        | some true => .ok d e1 S1
        | some false => n e1 S1
        | none => .stuck) := hp
      split at hp
      · rename_i hd
        exact ⟨true, tru_of r.sub (.inl k) hd, hp v H' F' rho' r s p k⟩
      · rename_i hd
        exact ⟨false, tru_of r.sub (.inl k) hd, e1, S1, F', rho', r, postE.mono s p hp⟩
      · exact hp.elim
    | exc x e1 S1 => rw [q] at hp; exact hp
    | stuck => rw [q] at hp; exact hp
theorem sem_not {m : Ex} (ha : PE X a (rdE X.gb W ent m)) : PE X (.UnaryOp .Not a pos) (rdE X.gb W ent (bNot m)) :=
  (pe_notT ha).weak fun σ H Q ⟨e, S, F, rho, hR, hp⟩ => by
    refine ⟨e, S, F, rho, hR, ?_⟩
    unfold bNot at hp
    cases q : m e S with
    | ok d e1 S1 =>
      rw [q] at hp
      intro v H' F' rho' r s p k
      have hp : postE X.gb W ent σ F rho Q (match d.tru with
        | some b => .ok (.bl (!b)) e1 S1
        | none => .stuck) := hp
      split at hp
      · rename_i b hd
        exact ⟨b, tru_of r.sub (.inl k) hd, hp _ H' F' rho' r s p (.bl _)⟩
      · exact hp.elim
    | exc x e1 S1 => rw [q] at hp; exact hp
    | stuck => rw [q] at hp; exact hp
theorem sem_if {t : Tx} {m n : Ex} (hc : PT X c (rdT X.gb W ent t)) (ha : PE X a (rdE X.gb W ent m)) (hb : PE X b (rdE X.gb W ent n)) : PE X (.IfExp c a b pos) (rdE X.gb W ent (bIf t m n)) :=
  (pe_ifExp hc ha hb).weak fun σ H Q ⟨e, S, F, rho, hR, hp⟩ => by
    refine ⟨e, S, F, rho, hR, ?_⟩
    unfold bIf at hp
    cases q : t e S with
    | ok d e1 S1 =>
      rw [q] at hp
      intro H' F' rho' r s p
      cases d with
      | true => exact ⟨e1, S1, F', rho', r, postE.mono s p hp⟩
      | false => exact ⟨e1, S1, F', rho', r, postE.mono s p hp⟩
    | exc x e1 S1 => rw [q] at hp; exact hp
    | stuck => rw [q] at hp; exact hp
theorem semW_if {t : Tx} {m n : Wx} (hc : PT X c (rdT X.gb W ent t)) (ha : PE X a (rdW X.gb W ent m)) (hb : PE X b (rdW X.gb W ent n)) : PE X (.IfExp c a b pos) (rdW X.gb W ent (wIf t m n)) :=
  (pe_ifExp hc ha hb).weak fun σ H Q ⟨e, S, F, rho, hR, hp⟩ => by
    refine ⟨e, S, F, rho, hR, ?_⟩
    unfold wIf at hp
    cases q : t e S with
    | ok d e1 S1 =>
      rw [q] at hp
      intro H' F' rho' r s p
      cases d with
      | true => exact ⟨e1, S1, F', rho', r, postW.mono s p hp⟩
      | false => exact ⟨e1, S1, F', rho', r, postW.mono s p hp⟩
    | exc x e1 S1 => rw [q] at hp; exact hp
    | stuck => rw [q] at hp; exact hp
/-- a value, kept with its right -/
theorem semW_val {m : Ex} (h : PE X a (rdE X.gb W ent m)) : PE X a (rdW X.gb W ent (wVal m)) := h.weak fun σ H Q q => rdW_val q
theorem sem_frz {m : Wx} (h : PE X a (rdW X.gb W ent m)) : PE X a (rdE X.gb W ent (eFrz m)) := h.weak fun σ H Q q => rdE_frz q
end
end TM
namespace TM
open PySem PySem.Spec L2
open PyProof.Rows hiding St

/-! lists of values -/
def evX : List Ex → Env → Sto → Out (List D)
  | [], e, S => .ok [] e S
  | m :: ms, e, S => (m e S).bind fun d e S => (evX ms e S).bind fun ds e S => .ok (d :: ds) e S
def postXs (G : Gb) (W : WX) (ent : Ent) (σ : St) (F : Hp) (rho : List Addr) (Q : List V → Hp → Prop) : Out (List D) → Prop
  | .ok ds e S => ∀ (vs : List V) (H' F' : Hp) (rho' : List Addr), R G ent e S σ H' F' rho' → Sub F F' → Pre rho rho' → RepL G rho' F' vs ds → Q vs H'
  | .exc x e S => postX G W ent σ F rho x e S
  | .stuck => False
theorem tXs_of {G : Gb} {W : WX} {ent : Ent} {σ : St} : ∀ {ms : List Ex} {e : Env} {S : Sto} {H F : Hp} {rho : List Addr} {Q : List V → Hp → Prop}, R G ent e S σ H F rho → postXs G W ent σ F rho Q (evX ms e S) → tOs G W ent (ms.map .ex) σ H Q
  | [], e, S, H, F, rho, Q, hR, hp => hp [] H F rho hR (Sub.refl _) (Pre.refl _) .nil
  | m :: ms, e, S, H, F, rho, Q, hR, hp => by
    unfold evX at hp
    refine ⟨e, S, F, rho, hR, ?_⟩
    cases q : m e S with
    | ok d e1 S1 =>
      rw [q] at hp
      intro v H1 F1 rho1 hR1 s1 p1 r1
      refine tXs_of hR1 ?_
      have hp : postXs G W ent σ F rho Q ((evX ms e1 S1).bind fun ds e S => .ok (d :: ds) e S) := hp
      cases q2 : evX ms e1 S1 with
      | ok ws e2 S2 =>
        rw [q2] at hp
        intro vs H2 F2 rho2 hR2 s2 p2 hr
        exact hp (v :: vs) H2 F2 rho2 hR2 (s1.trans s2) (p1.trans p2) (.cons (r1.mono s2 p2) hr)
      | exc x e2 S2 => rw [q2] at hp; exact postX.mono s1 p1 hp
      | stuck => rw [q2] at hp; exact hp
    | exc x e1 S1 => rw [q] at hp; exact hp
    | stuck => rw [q] at hp; exact hp
theorem postXs.mono {G : Gb} {W : WX} {ent : Ent} {σ : St} {F F' : Hp} {rho rho' : List Addr} {Q : List V → Hp → Prop} {o : Out (List D)} (s : Sub F F') (p : Pre rho rho') (h : postXs G W ent σ F rho Q o) : postXs G W ent σ F' rho' Q o := by
  cases o with
  | ok b e S => exact fun v H2 F2 r2 hR hs hp => h v H2 F2 r2 hR (s.trans hs) (p.trans hp)
  | exc x e S => exact postX.mono s p h
  | stuck => exact h

/-! displays -/
def bTup (ms : List Ex) : Ex := fun e S => (evX ms e S).bind fun ds e S => if ds.length ≤ sizeLine then .ok (.tup ds) e S else .stuck
def wLst (ms : List Ex) : Wx := fun e S => (evX ms e S).bind fun ds e S => if ds.length ≤ sizeLine then .ok (.own ds) e S else .stuck
section
variable {X : Cx} {W : WX} {ent : Ent}
theorem sem_tup {es : List Expr} {ms : List Ex} {x1} {pos : Pos} (h : PA X es (tOs X.gb W ent (ms.map .ex))) : PE X (.Tuple es x1 pos) (rdE X.gb W ent (bTup ms)) :=
  (pe_tup h).weak fun σ H Q ⟨e, S, F, rho, hR, hp⟩ => by
    refine tXs_of hR ?_
    unfold bTup at hp
    cases q : evX ms e S with
    | ok ds e1 S1 =>
      rw [q] at hp
      intro vs H' F' rho' r s p l
      have hp : postE X.gb W ent σ F rho Q (if ds.length ≤ sizeLine then .ok (.tup ds) e1 S1 else .stuck) := hp
      split at hp
      · rename_i hz
        refine ⟨by rw [l.length]; exact hz, fun a ha => ?_⟩
        have g := Grow.alloc (o := .tup vs) r.sub ha
        exact hp _ _ _ rho' (r.grow g) (s.trans (g.sub r.sub)) p (.tup (.of upd_same) (fun _ => upd_same) (by rw [l.length]; exact hz) (l.mono (g.sub r.sub) (Pre.refl _)))
      · exact hp.elim
    | exc x e1 S1 => rw [q] at hp; exact hp
    | stuck => rw [q] at hp; exact hp
theorem semW_lst {es : List Expr} {ms : List Ex} {pos : Pos} (h : PA X es (tOs X.gb W ent (ms.map .ex))) : PE X (.List es pos) (rdW X.gb W ent (wLst ms)) :=
  (pe_lst h).weak fun σ H Q ⟨e, S, F, rho, hR, hp⟩ => by
    refine tXs_of hR ?_
    unfold wLst at hp
    cases q : evX ms e S with
    | ok ds e1 S1 =>
      rw [q] at hp
      intro vs H' F' rho' r s p l
      have hp : postW X.gb W ent σ F rho Q (if ds.length ≤ sizeLine then .ok (.own ds) e1 S1 else .stuck) := hp
      split at hp
      · rename_i hz
        refine ⟨by rw [l.length]; exact hz, fun a ha => ?_⟩
        obtain ⟨r2, w2⟩ := r.newL ha (by rw [l.length]; exact hz) l
        exact hp _ _ _ rho' r2 s p w2
      · exact hp.elim
    | exc x e1 S1 => rw [q] at hp; exact hp
    | stuck => rw [q] at hp; exact hp
end

/-! defs: their promise -/
structure FnG (P : Program) (w : World) (K : PySem.W.Frag) (mg : Str → Option Value) (base : Heap) (k : Nat) (f : Addr) (fd : FuncData) (ps : List Str) (sp : Sp) : Prop where
  len : ∀ vs H Q E, sp vs H Q E → vs.length = ps.length
  run : ∀ (A : Around) (outer : List PySem.Env) (s : Shared) (H : Hp) (args : Args) (us : List Value) (vs : List V) (Q : VK) (E : XK), Room k A → A.guards = some [] → Env0 P w K mg base A outer s H → BindsTo s fd args (ps.zip us) → Vals vs us → sp vs H Q E →
    codeAny (model P w) A (.call (.ref f) args) (CR (CX P w) outer P w H s Q E) s
theorem FnG.mono {P : Program} {w : World} {K : PySem.W.Frag} {mg : Str → Option Value} {base : Heap} {j k : Nat} {f : Addr} {fd : FuncData} {ps : List Str} {sp : Sp} (h : FnG P w K mg base j f fd ps sp) (hk : j ≤ k) : FnG P w K mg base k f fd ps sp :=
  ⟨h.len, fun A outer s H args us vs Q E hr => h.run A outer s H args us vs Q E (hr.mono hk)⟩

abbrev Fsem := List D → Sto → Out Slot
def FRep (G : Gb) (rho : List Addr) (Pr : Addr → HO → Prop) (F H : Hp) (v : V) : Slot → Prop
  | .val d => Rep G rho F v d
  | s => ∃ a, v = .ref a ∧ OwnAt G rho F H a s ∧ F a = none ∧ (∀ o, ¬ Pr a o) ∧ a ∉ rho
def postF (G : Gb) (H F : Hp) (rho : List Addr) (Q : VK) (E : XK) : Out Slot → Prop
  | .ok s _ S => ∀ (v : V) (H' F' : Hp) (rho' : List Addr), StoOk G S H' F' rho' → Post H F rho H' F' rho' → FRep G rho' (fun a o => H a = some o ∧ F a = none ∧ a ∉ rho) F' H' v s → Q v H'
  | .exc x _ S => ∀ (H' F' : Hp) (rho' : List Addr) (cls : Value) (d : Option Addr), StoOk G S H' F' rho' → Post H F rho H' F' rho' → XRep G rho' F' cls d x → E cls d H'
  | .stuck => False
/-- the promise: called with such data, it comes to what sem says -/
def spD (G : Gb) (n : Nat) (sem : Fsem) : Sp := fun vs H Q E => vs.length = n ∧ ∃ (ds : List D) (S : Sto) (F : Hp) (rho : List Addr), RepL G rho F vs ds ∧ StoOk G S H F rho ∧ postF G H F rho Q E (sem ds S)

def postS (G : Gb) (W : WX) (ent : Ent) (F : Hp) (rho : List Addr) (D : Ends) : Out Fl → Prop
  | .ok f e S => ∀ (σ : St) (H' F' : Hp) (rho' : List Addr), R G ent e S σ H' F' rho' → Sub F F' → Pre rho rho' → match f with
    | .next => D.nx σ H'
    | .brk => D.bk σ H'
    | .cont => D.ct σ H'
    | .ret s => ∀ v, WRep G ent rho' F' H' e σ v s → D.rt v H'
  | .exc x e S => ∀ σ, postX G W ent σ F rho x e S
  | .stuck => False
def rdS (G : Gb) (W : WX) (ent : Ent) (m : Sm) : TS := fun D σ H => ∃ (e : Env) (S : Sto) (F : Hp) (rho : List Addr), R G ent e S σ H F rho ∧ postS G W ent F rho D (m e S)
/-- a body run from its arguments -/
def env0 (N : Nat) (ds : List D) : Env := ds.map (fun d => some (.val d)) ++ List.replicate (N - ds.length) none
def fsem (N : Nat) (m : Sm) : Fsem := fun ds S => match m (env0 N ds) S with
  | .ok (.ret s) _ S => .ok s [] S
  | .ok .next _ S => .ok (.val .non) [] S
  | .ok .brk _ _ => .stuck
  | .ok .cont _ _ => .stuck
  | .exc x _ S => .exc x [] S
  | .stuck => .stuck

/-- what of a context is wanted -/
structure Gd (X : Cx) (k : Nat) : Prop where
  nd : X.N.Nodup
  calm : X.calm = true
  room : Room k X.A
  gua : X.A.guards = some []
/-- .. in a def's own block -/
structure Gf (X : Cx) (k : Nat) : Prop extends Gd X k where
  stk : X.stack = X.env :: X.outer
  fr : X.env.frame = some X.env.locals
  ex : X.ex = []
  fn : ∀ x, X.fn x = true
  po : PassesOwn (model X.prog X.w) X.A X.env X.xe

theorem guards_deeper {A : Around} {env : PySem.Env} (h : A.guards = some []) : (A.deeper env).guards = some [] := by
  simpa [Around.deeper] using h
theorem XRep.imp {G : Gb} {rho : List Addr} {F : Hp} {cls : Value} {d : Option Addr} {x : D} (h : XRep G rho F cls d x) : XRep G rho F cls d x := h

theorem fnG_of {P : Program} {w : World} {K : PySem.W.Frag} {mg : Str → Option Value} {base : Heap} {k : Nat} {f : Addr} {name qual : Str} {params : Arguments} {body : List Stmt} {scope : Scope} {dV kV doc pm cdv ct oc : Value} {an od : Option Addr}
    {osl : Array (Option Value)} {N ps : List Str} {m : Sm} (lk : K.lookup f = some ⟨oc, od, .func (PySem.W.fnOf name qual params body scope dV kV doc pm an cdv ct), osl⟩) (hcd : PySem.W.codeIn K cdv qual = true) (S : FnScope N ps scope)
    (hb : ∀ (X : Cx) (W : WX) (ent : Ent), X.prog = P → X.w = w → X.K = K → X.mg = mg → X.base = base → X.N = N → X.env.scope = scope → Gf X k → Takes X W → PSs X body (rdS X.gb W ent m)) :
    FnG P w K mg base (k + 1) f (PySem.W.fnOf name qual params body scope dV kV doc pm an cdv ct) ps (spD ⟨K, mg⟩ ps.length (fsem N.length m)) := by
  refine ⟨fun vs H Q E h => h.1, fun A outer s H args us vs Q E hr hg e0 hbd r hsp => ?_⟩
  obtain ⟨hl, ds, St, F, rho, hrep, hsto, hp⟩ := hsp
  have KX : K.In s.heap := e0.mod.kin.keeps fun b o e => (e0.bs b o e).1
  have lim : s.heap.NoLimit := e0.mod.nolimit.keeps fun b o e => (e0.bs b o e).1
  have hkind : ∀ y ∈ ps.zip us, scope.names.lookup y.1 = some .local ∨ (scope.names.lookup y.1 = some .cell ∧ ((cellsFrom (s.heap.objs.size + 1) scope.names []).lookup y.1).isSome = true) := fun ⟨n, v⟩ hy => by
    rcases S.par n (List.of_mem_zip hy).1 with q | q
    · exact .inl q
    · exact .inr ⟨q, PySem.W.cellsFrom_some _ _ _ (.inl q)⟩
  refine codeAny_call_function hr.depth (KX _ _ lk) rfl S.co S.gen rfl (PySem.W.codeRec_of KX hcd) (hbd _ _ _ _ ?_)
  refine wpAny_newFunctionEnv_cells S.kind hkind fun env he s1 x => ?_
  subst he
  refine ⟨lim.keeps x.toInCall.keep, codeAny_func ?_⟩
  have hlen : vs.length = ds.length := hrep.length
  have GF : Gf (cxOf (CX P w) P w K mg base N qual scope f cdv A outer s H E) k := ⟨⟨S.nd, rfl, hr.deeper _, guards_deeper hg⟩, rfl, rfl, rfl, fun _ => rfl, passes_of rfl⟩
  have ht := hb (cxOf (CX P w) P w K mg base N qual scope f cdv A outer s H E) (fun cls d _ H => E cls d H) ⟨fun a o => H a = some o ∧ F a = none ∧ a ∉ rho, F, rho⟩ rfl rfl rfl rfl rfl rfl rfl GF (takes_of rfl rfl rfl rfl)
  have I := inv_start (CX := CX P w) (E := E) S hr.hd e0 hl r x
  have hst : L2.start N vs = vs.map some ++ List.replicate (N.length - ds.length) none := by unfold L2.start; rw [hlen]
  have R0 : R ⟨K, mg⟩ ⟨fun a o => H a = some o ∧ F a = none ∧ a ∉ rho, F, rho⟩ (env0 N.length ds) St (L2.start N vs) H F rho := by
    rw [hst]
    exact R.start hsto.sub hrep hsto.len hsto.sto hsto.nod
  have hq : rdS ⟨K, mg⟩ (fun cls d _ H => E cls d H) ⟨fun a o => H a = some o ∧ F a = none ∧ a ∉ rho, F, rho⟩ m { nx := fun _ H' => Q .non H', rt := Q } (L2.start N vs) H := by
    refine ⟨_, _, F, rho, R0, ?_⟩
    unfold fsem at hp
    cases q : m (env0 N.length ds) St with
    | ok fl e1 S1 =>
      rw [q] at hp
      intro σ' H' F' rho' r' s' p'
      cases fl with
      | next => exact hp .non H' F' rho' r'.sok r'.post (show Rep _ _ _ _ _ from .non)
      | brk => exact hp.elim
      | cont => exact hp.elim
      | ret sl =>
        intro v hv
        refine hp v H' F' rho' r'.sok r'.post ?_
        cases sl with
        | val d => exact hv
        | own _ => obtain ⟨a, h1, h2, h3, h4, h5, _⟩ := hv; exact ⟨a, h1, h2, h3, h4, h5⟩
        | ownd _ => obtain ⟨a, h1, h2, h3, h4, h5, _⟩ := hv; exact ⟨a, h1, h2, h3, h4, h5⟩
        | ownt _ => obtain ⟨a, h1, h2, h3, h4, h5, _⟩ := hv; exact ⟨a, h1, h2, h3, h4, h5⟩
    | exc x e1 S1 =>
      rw [q] at hp
      intro σ' H' F' rho' cls d r' s' p' hx
      exact hp H' F' rho' cls d r'.sok r'.post hx
    | stuck => rw [q] at hp; exact hp.elim
  refine wpAny_mono (ht.run [] s1 (L2.start N vs) H _ I hq) (fun fl s' hs => ?_) fun e s' hs => hs
  have fin : ∀ {σ' : L2.St} {H' : Hp} {v : V} {u : Value}, Inv (cxOf (CX P w) P w K mg base N qual scope f cdv A outer s H E) [] σ' H' s' → RelV v u → Q v H' → CE outer P w H s Q u s' :=
    fun {σ' H' v u} J rv q => ⟨v, H', J.os, J.bare, J.base, J.hok, rv, q⟩
  cases fl with
  | ret u =>
    obtain ⟨v, σ', H', J, rv, q⟩ := hs
    exact fin J rv q
  | next =>
    obtain ⟨σ', H', J, q⟩ := hs
    exact fin (v := V.non) (u := Value.none) J rfl q
  | brk => obtain ⟨_, _, _, q⟩ := hs; exact q.elim
  | cont => obtain ⟨_, _, _, q⟩ := hs; exact q.elim
end TM
namespace TM
open PySem PySem.Spec L2
open PyProof.Rows hiding St

/-! how a call's values come to the parameters -/
inductive Src where
  | pos (i : Nat) | kw (j : Nat) | df (i : Nat)
def fill {α : Type} (z : α) (us ws ds : List α) (arr : List Src) : List α := arr.map fun s => match s with
  | .pos i => us.getD i z
  | .kw j => ws.getD j z
  | .df i => ds.getD i z
theorem fill_length {α : Type} {z : α} {us ws ds : List α} {arr : List Src} : (fill z us ws ds arr).length = arr.length := by unfold fill; rw [List.length_map]
theorem Vals.at {vs : List V} {us : List Value} (r : Vals vs us) (i : Nat) : RelV (vs.getD i .non) (us.getD i .none) := by
  rw [List.getD_eq_getElem?_getD, List.getD_eq_getElem?_getD]
  cases h : vs[i]? with
  | none => rw [L2.Vals.none_of r h]; rfl
  | some v => obtain ⟨u, hu, q⟩ := L2.Vals.get r h; rw [hu]; exact q
theorem RepL.at {G : Gb} {rho : List Addr} {F : Hp} {vs : List V} {ds : List D} (r : RepL G rho F vs ds) (i : Nat) : Rep G rho F (vs.getD i .non) (ds.getD i .non) := by
  rw [List.getD_eq_getElem?_getD, List.getD_eq_getElem?_getD]
  cases h : ds[i]? with
  | none =>
    have : vs[i]? = none := by
      rw [List.getElem?_eq_none_iff] at h ⊢
      rw [r.length]; exact h
    rw [this]; exact .non
  | some v => obtain ⟨u, hu, q⟩ := r.get h; rw [hu]; exact q
theorem fill_vals {vs zs dvs : List V} {us ws dus : List Value} (a : Vals vs us) (b : Vals zs ws) (c : Vals dvs dus) : ∀ arr : List Src, Vals (fill .non vs zs dvs arr) (fill .none us ws dus arr)
  | [] => .nil
  | .pos i :: r => .cons (Vals.at a i) (fill_vals a b c r)
  | .kw i :: r => .cons (Vals.at b i) (fill_vals a b c r)
  | .df i :: r => .cons (Vals.at c i) (fill_vals a b c r)
theorem fill_rep {G : Gb} {rho : List Addr} {F : Hp} {vs zs dvs : List V} {us ws dus : List D} (a : RepL G rho F vs us) (b : RepL G rho F zs ws) (c : RepL G rho F dvs dus) : ∀ arr : List Src, RepL G rho F (fill .non vs zs dvs arr) (fill .non us ws dus arr)
  | [] => .nil
  | .pos i :: r => .cons (RepL.at a i) (fill_rep a b c r)
  | .kw i :: r => .cons (RepL.at b i) (fill_rep a b c r)
  | .df i :: r => .cons (RepL.at c i) (fill_rep a b c r)

/-- a def, as it is called: its parameters, what it comes to, its defaults, the shapes of its calls (how many by place, the names, how these come to the parameters) -/
structure FnI where
  ps : List Str
  sem : Fsem
  dfl : List D
  shapes : List (Nat × List Str × List Src)
def BindsOk (K : PySem.W.Frag) (fd : FuncData) (ps : List Str) (dus : List Value) (sh : Nat × List Str × List Src) : Prop :=
  sh.2.2.length = ps.length ∧ ∀ (s : Shared) (us ws : List Value), K.In s.heap → us.length = sh.1 → ws.length = sh.2.1.length → BindsTo s fd ⟨us, sh.2.1.zip ws⟩ (ps.zip (fill .none us ws dus sh.2.2))
structure FnAt (P : Program) (w : World) (K : PySem.W.Frag) (mg : Str → Option Value) (base : Heap) (k : Nat) (x : Str) (i : FnI) : Prop where
  ex : ∃ (f : Addr) (fd : FuncData) (dvs : List V) (dus : List Value), mg x = some (.ref f) ∧ PySem.W.keepIn K (.ref f) = true ∧ FnG P w K mg base k f fd i.ps (spD ⟨K, mg⟩ i.ps.length i.sem) ∧ Vals dvs dus ∧ (∀ rho F, RepL ⟨K, mg⟩ rho F dvs i.dfl) ∧
    ∀ sh ∈ i.shapes, BindsOk K fd i.ps dus sh

def wCall (sem : Fsem) (dfl : List D) (arr : List Src) (ms kms : List Ex) : Wx := fun e S => (evX ms e S).bind fun ds e S => (evX kms e S).bind fun zs e S => match sem (fill .non ds zs dfl arr) S with
  | .ok s _ S => .ok s e S
  | .exc x _ S => .exc x e S
  | .stuck => .stuck

section
variable {X : Cx} {W : WX} {ent : Ent} {k : Nat}
/-- the call itself, its values reckoned -/
theorem run_call {pins : List (Addr × Obj)} {σ : L2.St} {H F : Hp} {s : Shared} {Q : VK} {us ws : List Value} {vs zs : List V} {ds ys : List D} {f : Addr} {fd : FuncData} {i : FnI} {dvs : List V} {dus : List Value} {ks : List Str} {arr : List Src} {e : Env} {S : Sto} {rho : List Addr} {F0 : Hp} {rho0 : List Addr}
    (gd : Gd X k) (tk : Takes X W) (Fn : FnG X.prog X.w X.K X.mg X.base k f fd i.ps (spD X.gb i.ps.length i.sem)) (hdv : Vals dvs dus) (hdd : ∀ rho F, RepL X.gb rho F dvs i.dfl) (hb : BindsOk X.K fd i.ps dus (us.length, ks, arr)) (hks : ws.length = ks.length)
    (I : Inv X pins σ H s) (r1 : Vals vs us) (r2 : Vals zs ws) (hR : R X.gb ent e S σ H F rho) (l1 : RepL X.gb rho F vs ds) (l2 : RepL X.gb rho F zs ys) (sb : Sub F0 F) (pr : Pre rho0 rho)
    (h : postW X.gb W ent σ F0 rho0 Q (match i.sem (fill .non ds ys i.dfl arr) S with
      | .ok s _ S => .ok s e S
      | .exc x _ S => .exc x e S
      | .stuck => .stuck)) : wpAny (model X.prog X.w) X.A (call (.ref f) us (ks.zip ws)) (EP X pins σ Q) X.xe s := by
  obtain ⟨ha, hbd⟩ := hb
  have hrel := fill_vals r1 r2 hdv arr
  refine wpAny_call (codeAny_mono (Fn.run X.A X.stack s H ⟨us, ks.zip ws⟩ (fill .none us ws dus arr) (fill .non vs zs dvs arr) Q (fun cls d H' => W cls d σ H') gd.room gd.gua I.env0 (hbd s us ws I.kIn rfl hks) hrel ?_) fun r s' hq => ?_)
  · refine ⟨fill_length.trans ha, fill .non ds ys i.dfl arr, S, F, rho, fill_rep l1 l2 (hdd rho F) arr, hR.sok, ?_⟩
    cases q : i.sem (fill .non ds ys i.dfl arr) S with
    | ok sl e1 S1 =>
      rw [q] at h
      intro v H' F' rho' k1 k2 k3
      refine h v H' F' rho' (hR.call k1 k2) (sb.trans k2.sub) (pr.trans k2.pre) ?_
      have key : (∃ a, v = .ref a ∧ OwnAt X.gb rho' F' H' a sl ∧ F' a = none ∧ (∀ o, ¬ (H a = some o ∧ F a = none ∧ a ∉ rho)) ∧ a ∉ rho') → ∃ a, v = .ref a ∧ OwnAt X.gb rho' F' H' a sl ∧ F' a = none ∧ (∀ o, ¬ ent.Pr a o) ∧ a ∉ rho' ∧ ∀ (i : Nat) (t : Slot), e[i]? = some (some t) → t.isVal = false → σ[i]? ≠ some (some (.ref a)) := by
        rintro ⟨a, h1, h2, h3, h4, h5⟩
        refine ⟨a, h1, h2, h3, fun o z => h4 o (hR.keep a o z), h5, fun j t hj ht z => ?_⟩
        obtain ⟨b, e1, e2, e3, _, e5⟩ := hR.own j t hj ht
        rw [e1] at z; cases z
        obtain ⟨o, ho⟩ := Option.ne_none_iff_exists'.mp e2.isob
        exact h4 o ⟨ho, e3, e5⟩
      cases sl with
      | val d => exact k3
      | own _ => exact key k3
      | ownd _ => exact key k3
      | ownt _ => exact key k3
    | exc x e1 S1 =>
      rw [q] at h
      intro H' F' rho' cls d k1 k2 k3
      exact h H' F' rho' cls d (hR.call k1 k2) (sb.trans k2.sub) (pr.trans k2.pre) k3
    | stuck => rw [q] at h; exact h
  · cases r with
    | error x => exact tk x s' (XE.of_call I (fun _ _ _ z => z) hq)
    | ok fl =>
      cases fl with
      | ret u => exact I.after hq
      | next => exact hq.elim
      | brk => exact hq.elim
      | cont => exact hq.elim

def plainA : Expr → Bool
  | .Starred _ _ => false
  | _ => true
theorem star_plain {x : Expr} (h : plainA x = true) (es : List Expr) (env : PySem.Env) : starEach (x :: es) env = (false, eval x env) :: starEach es env := by
  cases x <;> first | rfl | cases h
theorem back_plain {pos : Pos} {env : PySem.Env} : ∀ {es : List Expr}, es.all plainA = true → (backTo pos (starEach es env)).any (·.1) = false
  | [], _ => rfl
  | x :: es, h => by
    rw [List.all_cons, Bool.and_eq_true] at h
    rw [star_plain h.1]
    have := back_plain (pos := pos) (env := env) h.2
    simpa [backTo] using this
def kwName (k : Keyword) : Bool := k.arg.isSome
theorem kw_all {pos : Pos} {env : PySem.Env} : ∀ {kws : List Keyword}, kws.all kwName = true → (backToKw pos (keywordEach kws env)).all (·.1.isSome) = true ∧ (backToKw pos (keywordEach kws env)).any (·.1.isNone) = false
  | [], _ => ⟨rfl, rfl⟩
  | ⟨n, v, p⟩ :: r, h => by
    rw [List.all_cons, Bool.and_eq_true] at h
    have := kw_all (pos := pos) (env := env) h.2
    have h1 : n.isSome = true := h.1
    cases n with
    | none => cases h1
    | some n => simpa [backToKw, keywordEach] using this
theorem kw_names {pos : Pos} {env : PySem.Env} : ∀ {kws : List Keyword}, (backToKw pos (keywordEach kws env)).filterMap (·.1) = kws.filterMap (·.arg)
  | [] => rfl
  | ⟨n, v, p⟩ :: r => by
    have := kw_names (pos := pos) (env := env) (kws := r)
    cases n <;> simpa [backToKw, keywordEach] using this
theorem kw_len : ∀ {kws : List Keyword}, kws.all kwName = true → (kws.filterMap (·.arg)).length = kws.length
  | [], _ => rfl
  | ⟨n, v, p⟩ :: r, h => by
    rw [List.all_cons, Bool.and_eq_true] at h
    have h1 : n.isSome = true := h.1
    cases n with
    | none => cases h1
    | some n => simp [kw_len h.2]
/-- keywords' values -/
inductive KwE (X : Cx) (W : WX) (ent : Ent) : List Keyword → List Ex → Prop
  | nil : KwE X W ent [] []
  | cons {n : Option Str} {x : Expr} {p : Pos} {m : Ex} {kws : List Keyword} {ms : List Ex} : PE X x (rdE X.gb W ent m) → KwE X W ent kws ms → KwE X W ent (⟨n, x, p⟩ :: kws) (m :: ms)
theorem pk_kws : ∀ {kws : List Keyword} {ms : List Ex}, KwE X W ent kws ms → PK X kws (tOs X.gb W ent (ms.map .ex))
  | _, _, .nil => pk_nil
  | _, _, .cons h t => pk_cons h (pk_kws t)
theorem KwE.length : ∀ {kws : List Keyword} {ms : List Ex}, KwE X W ent kws ms → kws.length = ms.length
  | _, _, .nil => rfl
  | _, _, .cons _ t => congrArg (· + 1) (KwE.length t)
theorem evX_length : ∀ {ms : List Ex} {e e' : Env} {S S' : Sto} {ds : List D}, evX ms e S = .ok ds e' S' → ds.length = ms.length
  | [], e, e', S, S', ds, h => by cases h; rfl
  | m :: ms, e, e', S, S', ds, h => by
    unfold evX at h
    cases q : m e S with
    | ok d e1 S1 =>
      rw [q] at h
      have h : (evX ms e1 S1).bind (fun ds e S => .ok (d :: ds) e S) = .ok ds e' S' := h
      cases q2 : evX ms e1 S1 with
      | ok ws e2 S2 =>
        rw [q2] at h
        cases h
        rw [List.length_cons, List.length_cons, evX_length q2]
      | exc x e2 S2 => rw [q2] at h; cases h
      | stuck => rw [q2] at h; cases h
    | exc x e1 S1 => rw [q] at h; cases h
    | stuck => rw [q] at h; cases h

/-- f(..) of an own def -/
theorem semW_call {x : Str} {i : FnI} {p pos : Pos} {es : List Expr} {kws : List Keyword} {ms kms : List Ex} {arr : List Src} (gd : Gd X k) (tk : Takes X W) (fa : FnAt X.prog X.w X.K X.mg X.base k x i) (hg : Gl X x) (hdb : (x == ("__debug__" : Str)) = false)
    (hsh : (es.length, kws.filterMap (·.arg), arr) ∈ i.shapes) (hpl : es.all plainA = true) (hkw : kws.all kwName = true) (ha : OpsE X W ent es (ms.map .ex)) (hlen : es.length = ms.length) (hk : KwE X W ent kws kms) :
    PE X (.Call (.Name x p) es kws pos) (rdW X.gb W ent (wCall i.sem i.dfl arr ms kms)) := by
  obtain ⟨f, fd, dvs, dus, hm, hkeep, Fn, hdv, hdd, hbs⟩ := fa.ex
  have hb := hbs _ hsh
  refine ⟨fun pins s σ H Q I hq => ?_⟩
  obtain ⟨e, S, F, rho, hR, hp⟩ := hq
  refine wpAny_Call_Name_kw (ld_glob I hg hm ?_ hdb)
  obtain ⟨k1, k2⟩ := kw_all (pos := pos) (env := X.env) hkw
  -- what stands behind the positional values
  have step : ∀ (us : List Value) (vs : List V) (s1 : Shared) (H1 F1 : Hp) (rho1 : List Addr) (ds : List D) (e1 : Env) (S1 : Sto), us.length = es.length → Vals vs us → Inv X pins σ H1 s1 → R X.gb ent e1 S1 σ H1 F1 rho1 → Sub F F1 → Pre rho rho1 → RepL X.gb rho1 F1 vs ds → evX ms e S = .ok ds e1 S1 →
      wpAny (model X.prog X.w) X.A (evalAll ((backToKw pos (keywordEach kws X.env)).map (·.2))) (fun ks s₂ => X.K.In s₂.heap ∧ wpAny (model X.prog X.w) X.A (call (.ref f) us (((backToKw pos (keywordEach kws X.env)).filterMap (·.1)).zip ks)) (EP X pins σ Q) X.xe s₂) X.xe s1 := by
    intro us vs s1 H1 F1 rho1 ds e1 S1 hul r1 I1 hR1 sb1 pr1 l1 ev
    have hp : postW X.gb W ent σ F rho Q ((evX kms e1 S1).bind fun zs e S => match i.sem (fill .non ds zs i.dfl arr) S with
      | .ok s _ S => .ok s e S
      | .exc x _ S => .exc x e S
      | .stuck => .stuck) := by
      unfold wCall at hp
      rw [ev] at hp
      exact hp
    refine thn ((pk_kws hk).run pos pins s1 σ H1 (fun zs H2 => ∃ (F2 : Hp) (rho2 : List Addr) (ys : List D) (e2 : Env) (S2 : Sto), evX kms e1 S1 = .ok ys e2 S2 ∧ R X.gb ent e2 S2 σ H2 F2 rho2 ∧ Sub F1 F2 ∧ Pre rho1 rho2 ∧ RepL X.gb rho2 F2 zs ys) I1 (tXs_of hR1 ?_)) fun ws s2 hws => ?_
    · cases q : evX kms e1 S1 with
      | ok ys e2 S2 => exact fun zs H2 F2 rho2 hR2 sb2 pr2 l2 => ⟨F2, rho2, ys, e2, S2, rfl, hR2, sb2, pr2, l2⟩
      | exc x e2 S2 => rw [q] at hp; exact postX.mono sb1 pr1 hp
      | stuck => rw [q] at hp; exact hp
    · obtain ⟨zs, H2, I2, r2, F2, rho2, ys, e2, S2, q, hR2, sb2, pr2, l2⟩ := hws
      rw [q] at hp
      refine ⟨I2.kIn, ?_⟩
      rw [kw_names]
      have hwl : ws.length = (kws.filterMap (·.arg)).length := by
        rw [kw_len hkw, ← r2.length, l2.length, evX_length q, hk.length]
      exact run_call gd tk Fn hdv hdd (by rw [hul]; exact hb) hwl I2 r1 r2 hR2 (l1.mono sb2 pr2) l2 (sb1.trans sb2) (pr1.trans pr2) hp
  cases es with
  | nil =>
    refine PySem.W.callWith_KW0 (h₀ := X.base) (first := []) I.ok.mod.kin hkeep k1 ?_ (by rw [k2]; rfl)
    cases ms with
    | cons _ _ => cases hlen
    | nil => exact step [] [] s H F rho [] e S rfl .nil I hR (Sub.refl _) (Pre.refl _) .nil rfl
  | cons x0 es0 =>
    rw [List.all_cons, Bool.and_eq_true] at hpl
    refine PySem.W.callWith_KW (h₀ := X.base) (first := []) I.ok.mod.kin hkeep k1 (thn ((pa_ops ha).run pos pins s σ H (fun vs H1 => ∃ (F1 : Hp) (rho1 : List Addr) (ds : List D) (e1 : Env) (S1 : Sto), evX ms e S = .ok ds e1 S1 ∧ R X.gb ent e1 S1 σ H1 F1 rho1 ∧ Sub F F1 ∧ Pre rho rho1 ∧ RepL X.gb rho1 F1 vs ds) I (tXs_of hR ?_)) fun us s1 hus => ?_) (by rw [k2, back_plain (by rw [List.all_cons, hpl.1, hpl.2]; rfl)]; rfl) (star_plain hpl.1 _ _)
    · unfold wCall at hp
      cases q : evX ms e S with
      | ok ds e1 S1 => exact fun vs H1 F1 rho1 hR1 sb1 pr1 l1 => ⟨F1, rho1, ds, e1, S1, rfl, hR1, sb1, pr1, l1⟩
      | exc x e2 S2 => rw [q] at hp; exact hp
      | stuck => rw [q] at hp; exact hp
    · obtain ⟨vs, H1, I1, r1, F1, rho1, ds, e1, S1, q, hR1, sb1, pr1, l1⟩ := hus
      exact step us vs s1 H1 F1 rho1 ds e1 S1 (by rw [← r1.length, l1.length, evX_length q, hlen]) r1 I1 hR1 sb1 pr1 l1 q
end
end TM
namespace TM
open PySem PySem.Spec L2
open PyProof.Rows hiding St

/-! statements -/
section
variable {G : Gb} {W : WX} {ent : Ent} {F F' : Hp} {rho rho' : List Addr}
theorem postS.mono {D : Ends} {o : Out Fl} (s : Sub F F') (p : Pre rho rho') (h : postS G W ent F rho D o) : postS G W ent F' rho' D o := by
  cases o with
  | ok f e S => exact fun σ H2 F2 r2 hR hs hp => h σ H2 F2 r2 hR (s.trans hs) (p.trans hp)
  | exc x e S => exact fun σ => postX.mono s p (h σ)
  | stuck => exact h
end
def sOk (f : Fl) : Sm := fun e S => .ok f e S
def sRet (m : Wx) : Sm := fun e S => (m e S).bind fun s e S => .ok (.ret s) e S
def sSet (i : Nat) (m : Wx) : Sm := fun e S => (m e S).bind fun s e S => .ok .next (e.set i (some s)) S
def sIf (t : Tx) (m n : Sm) : Sm := fun e S => (t e S).bind fun b e S => if b = true then m e S else n e S
def sSeq (m n : Sm) : Sm := fun e S => (m e S).bind fun f e S => match f with
  | .next => n e S
  | f => .ok f e S
def sDrop (m : Ex) : Sm := fun e S => (m e S).bind fun _ e S => .ok .next e S
section
variable {X : Cx} {W : WX} {ent : Ent} {pos : Pos}
theorem semS_pass : PS X (.Pass pos) (rdS X.gb W ent (sOk .next)) := ps_pass.weak fun D σ H ⟨e, S, F, rho, hR, hp⟩ => hp σ H F rho hR (Sub.refl _) (Pre.refl _)
theorem semS_break : PS X (.Break pos) (rdS X.gb W ent (sOk .brk)) := ps_break.weak fun D σ H ⟨e, S, F, rho, hR, hp⟩ => hp σ H F rho hR (Sub.refl _) (Pre.refl _)
theorem semS_cont : PS X (.Continue pos) (rdS X.gb W ent (sOk .cont)) := ps_continue.weak fun D σ H ⟨e, S, F, rho, hR, hp⟩ => hp σ H F rho hR (Sub.refl _) (Pre.refl _)
theorem semS_doc {x j pos'} : PS X (.Expr (.Constant (.str x) j pos') pos) (rdS X.gb W ent (sOk .next)) := ps_doc.weak fun D σ H ⟨e, S, F, rho, hR, hp⟩ => hp σ H F rho hR (Sub.refl _) (Pre.refl _)
theorem semS_retN : PS X (.Return none pos) (rdS X.gb W ent (sOk (.ret (.val .non)))) := ps_retN.weak fun D σ H ⟨e, S, F, rho, hR, hp⟩ => hp σ H F rho hR (Sub.refl _) (Pre.refl _) .non (show Rep _ _ _ _ _ from .non)
theorem semS_ret {x : Expr} {m : Wx} (h : PE X x (rdW X.gb W ent m)) : PS X (.Return (some x) pos) (rdS X.gb W ent (sRet m)) := (ps_ret h).weak fun D σ H ⟨e, S, F, rho, hR, hp⟩ => by
  refine ⟨e, S, F, rho, hR, ?_⟩
  unfold sRet at hp
  cases q : m e S with
  | ok s e1 S1 => rw [q] at hp; exact fun v H' F' rho' r sb p k => hp σ H' F' rho' r sb p v k
  | exc x e1 S1 => rw [q] at hp; exact hp σ
  | stuck => rw [q] at hp; exact hp
theorem semS_set {x : Expr} {m : Wx} {i : Nat} {y : Str} {pos' : Pos} (h : PE X x (rdW X.gb W ent m)) (hN : X.N.Nodup) (hi : X.N[i]? = some y) (hx : Loc X.env.scope y) (hf : X.fn y = true ∨ X.env.scope.names.lookup y = some .local)
    (hs : swapsWith x (some (.Name y pos')) pos.line X.env = pure false) : PS X (.Assign [.Name y pos'] x pos) (rdS X.gb W ent (sSet i m)) := (ps_set hN hi hx h hs hf).weak fun D σ H ⟨e, S, F, rho, hR, hp⟩ => by
  refine ⟨e, S, F, rho, hR, ?_⟩
  unfold sSet at hp
  cases q : m e S with
  | ok s e1 S1 => rw [q] at hp; exact fun v H' F' rho' r sb p k => hp _ H' F' rho' (r.setW k i) sb p
  | exc x e1 S1 => rw [q] at hp; exact hp σ
  | stuck => rw [q] at hp; exact hp
theorem semS_if {c : Expr} {a b : List Stmt} {t : Tx} {m n : Sm} (hc : PT X c (rdT X.gb W ent t)) (ha : PSs X a (rdS X.gb W ent m)) (hb : PSs X b (rdS X.gb W ent n)) : PS X (.If c a b pos) (rdS X.gb W ent (sIf t m n)) :=
  (ps_if hc ha hb).weak fun D σ H ⟨e, S, F, rho, hR, hp⟩ => by
    refine ⟨e, S, F, rho, hR, ?_⟩
    unfold sIf at hp
    cases q : t e S with
    | ok d e1 S1 =>
      rw [q] at hp
      intro H' F' rho' r s p
      cases d with
      | true => exact ⟨e1, S1, F', rho', r, postS.mono s p hp⟩
      | false => exact ⟨e1, S1, F', rho', r, postS.mono s p hp⟩
    | exc x e1 S1 => rw [q] at hp; exact hp σ
    | stuck => rw [q] at hp; exact hp
theorem semB_nil : PSs X [] (rdS X.gb W ent (sOk .next)) := pss_nil.weak fun D σ H ⟨e, S, F, rho, hR, hp⟩ => hp σ H F rho hR (Sub.refl _) (Pre.refl _)
theorem semB_cons {st : Stmt} {rest : List Stmt} {m n : Sm} (h1 : PS X st (rdS X.gb W ent m)) (h2 : PSs X rest (rdS X.gb W ent n)) : PSs X (st :: rest) (rdS X.gb W ent (sSeq m n)) :=
  (pss_cons h1 h2).weak fun D σ H ⟨e, S, F, rho, hR, hp⟩ => by
    refine ⟨e, S, F, rho, hR, ?_⟩
    unfold sSeq at hp
    cases q : m e S with
    | ok f e1 S1 =>
      rw [q] at hp
      intro σ' H' F' rho' r s p
      cases f with
      | next => exact ⟨e1, S1, F', rho', r, postS.mono s p hp⟩
      | brk => exact hp σ' H' F' rho' r s p
      | cont => exact hp σ' H' F' rho' r s p
      | ret sl => exact hp σ' H' F' rho' r s p
    | exc x e1 S1 => rw [q] at hp; exact hp
    | stuck => rw [q] at hp; exact hp
theorem semS_drop {x : Expr} {m : Ex} (h : PE X x (rdE X.gb W ent m)) (hs : swapsWith x none pos.line X.env = pure false) : PS X (.Expr x pos) (rdS X.gb W ent (sDrop m)) := (ps_expr h hs).weak fun D σ H ⟨e, S, F, rho, hR, hp⟩ => by
  refine ⟨e, S, F, rho, hR, ?_⟩
  unfold sDrop at hp
  cases q : m e S with
  | ok s e1 S1 => rw [q] at hp; exact fun v H' F' rho' r sb p k => hp _ H' F' rho' r sb p
  | exc x e1 S1 => rw [q] at hp; exact hp σ
  | stuck => rw [q] at hp; exact hp
end

/-! several targets at once -/
def setAll {α : Type} : List Nat → List α → List (Option α) → List (Option α)
  | i :: is, v :: vs, l => setAll is vs (l.set i (some v))
  | _, _, l => l
def evW : List Wx → Env → Sto → Out (List Slot)
  | [], e, S => .ok [] e S
  | m :: ms, e, S => (m e S).bind fun s e S => (evW ms e S).bind fun ss e S => .ok (s :: ss) e S
def rdWx (G : Gb) (W : WX) (m : Wx) : TE := fun σ H Q => ∃ ent, rdW G W ent m σ H Q
def tWs (G : Gb) (W : WX) : List Wx → TA
  | [] => tNil
  | m :: ms => tCons (rdWx G W m) (tWs G W ms)
/-- values with rights, each its own -/
inductive WRL (G : Gb) (ent : Ent) (rho : List Addr) (F H : Hp) (e : Env) (σ : L2.St) : List V → List Slot → Prop
  | nil : WRL G ent rho F H e σ [] []
  | cons {v : V} {s : Slot} {vs : List V} {ss : List Slot} : WRep G ent rho F H e σ v s → WRL G ent rho F H e σ vs ss →
      (∀ (a : Addr) (j : Nat) (t : Slot), s.isVal = false → v = .ref a → ss[j]? = some t → t.isVal = false → vs[j]? ≠ some (.ref a)) → WRL G ent rho F H e σ (v :: vs) (s :: ss)
def postWs (G : Gb) (W : WX) (ent : Ent) (σ : L2.St) (F : Hp) (rho : List Addr) (Q : List V → Hp → Prop) : Out (List Slot) → Prop
  | .ok ss e S => ∀ (vs : List V) (H' F' : Hp) (rho' : List Addr), R G ent e S σ H' F' rho' → Sub F F' → Pre rho rho' → WRL G ent rho' F' H' e σ vs ss → Q vs H'
  | .exc x e S => postX G W ent σ F rho x e S
  | .stuck => False
theorem WRL.length {G : Gb} {ent : Ent} {rho : List Addr} {F H : Hp} {e : Env} {σ : L2.St} : ∀ {vs : List V} {ss : List Slot}, WRL G ent rho F H e σ vs ss → vs.length = ss.length
  | _, _, .nil => rfl
  | _, _, .cons _ t _ => congrArg (· + 1) (WRL.length t)
theorem WRL.get {G : Gb} {ent : Ent} {rho : List Addr} {F H : Hp} {e : Env} {σ : L2.St} : ∀ {vs : List V} {ss : List Slot} {j : Nat} {s : Slot}, WRL G ent rho F H e σ vs ss → ss[j]? = some s → ∃ v, vs[j]? = some v ∧ WRep G ent rho F H e σ v s
  | _, _, _, _, .nil, h => by simp at h
  | _, _, 0, _, .cons r _ _, h => by simp at h; subst h; exact ⟨_, rfl, r⟩
  | _, _, j + 1, s, .cons _ t _, h => by
    obtain ⟨v, h1, h2⟩ := WRL.get (j := j) (s := s) t (by simpa using h)
    exact ⟨v, by simpa using h1, h2⟩
theorem postX.less {G : Gb} {W : WX} {ent ent' : Ent} {σ : L2.St} {F : Hp} {rho : List Addr} {x : D} {e : Env} {S : Sto} (h1 : ∀ a o, ent.Pr a o → ent'.Pr a o) (h2 : ent.F = ent'.F) (h3 : ent.rho = ent'.rho) (h : postX G W ent σ F rho x e S) : postX G W ent' σ F rho x e S :=
  fun H' F' rho' c d r s p x => h H' F' rho' c d (r.less h1 h2 h3) s p x
theorem WRep.mono {G : Gb} {ent : Ent} {rho : List Addr} {F H : Hp} {e : Env} {σ : L2.St} {ent' : Ent} (h1 : ∀ a o, ent'.Pr a o → ent.Pr a o) {v : V} {s : Slot} (h : WRep G ent rho F H e σ v s) : WRep G ent' rho F H e σ v s := by
  cases s with
  | val d => exact h
  | own _ => obtain ⟨a, q1, q2, q3, q4, q5⟩ := h; exact ⟨a, q1, q2, q3, fun o z => q4 o (h1 a o z), q5⟩
  | ownd _ => obtain ⟨a, q1, q2, q3, q4, q5⟩ := h; exact ⟨a, q1, q2, q3, fun o z => q4 o (h1 a o z), q5⟩
  | ownt _ => obtain ⟨a, q1, q2, q3, q4, q5⟩ := h; exact ⟨a, q1, q2, q3, fun o z => q4 o (h1 a o z), q5⟩
theorem WRL.less {G : Gb} {ent : Ent} {rho : List Addr} {F H : Hp} {e : Env} {σ : L2.St} {ent' : Ent} (h1 : ∀ a o, ent'.Pr a o → ent.Pr a o) : ∀ {vs : List V} {ss : List Slot}, WRL G ent rho F H e σ vs ss → WRL G ent' rho F H e σ vs ss
  | _, _, .nil => .nil
  | _, _, .cons r t d => .cons (r.mono h1) (WRL.less h1 t) d
theorem tWs_of {G : Gb} {W : WX} {σ : L2.St} : ∀ {ms : List Wx} {ent : Ent} {e : Env} {S : Sto} {H F : Hp} {rho : List Addr} {Q : List V → Hp → Prop}, R G ent e S σ H F rho → postWs G W ent σ F rho Q (evW ms e S) → tWs G W ms σ H Q
  | [], ent, e, S, H, F, rho, Q, hR, hp => hp [] H F rho hR (Sub.refl _) (Pre.refl _) .nil
  | m :: ms, ent, e, S, H, F, rho, Q, hR, hp => by
    unfold evW at hp
    refine ⟨ent, e, S, F, rho, hR, ?_⟩
    cases q : m e S with
    | ok s e1 S1 =>
      rw [q] at hp
      intro v H1 F1 rho1 hR1 s1 p1 r1
      have hp : postWs G W ent σ F rho Q ((evW ms e1 S1).bind fun ss e S => .ok (s :: ss) e S) := hp
      -- the objects that are to stand besides
      let ent2 : Ent := ⟨fun b o => ent.Pr b o ∨ (s.isVal = false ∧ v = .ref b ∧ H1 b = some o), ent.F, ent.rho⟩
      have hR2 : R G ent2 e1 S1 σ H1 F1 rho1 := by
        refine ⟨hR1.len, hR1.sub, hR1.val, fun i t h ht => ?_, hR1.sep, hR1.slen, hR1.sto, hR1.nod, fun a o h => ?_, hR1.sub0, hR1.pre0⟩
        · obtain ⟨a, q1, q2, q3, q4, q5⟩ := hR1.own i t h ht
          refine ⟨a, q1, q2, q3, fun o z => ?_, q5⟩
          rcases z with z | ⟨z1, z2, z3⟩
          · exact q4 o z
          · obtain ⟨b, e2, _, _, _, _, nb⟩ := r1.own_of z1
            rw [e2] at z2; cases z2
            exact nb i t h ht q1
        · rcases h with h | ⟨z1, z2, z3⟩
          · exact hR1.keep a o h
          · obtain ⟨b, e2, _, f2, _, n2, _⟩ := r1.own_of z1
            rw [e2] at z2; cases z2
            exact ⟨z3, f2, n2⟩
      refine tWs_of hR2 ?_
      cases q2 : evW ms e1 S1 with
      | ok ss e2 S2 =>
        rw [q2] at hp
        intro vs H2 F2 rho2 hR3 s2 p2 hr
        refine hp (v :: vs) H2 F2 rho2 (hR3.less (fun a o z => Or.inl z) rfl rfl) (s1.trans s2) (p1.trans p2) (.cons ?_ (hr.less fun a o z => Or.inl z) ?_)
        · by_cases hs : s.isVal = true
          · cases s with
            | val d => exact Rep.mono s2 p2 r1
            | own _ => cases hs
            | ownd _ => cases hs
            | ownt _ => cases hs
          · have hs : s.isVal = false := by simpa using hs
            obtain ⟨a, e2, o2, f2, g2, n2, nb⟩ := r1.own_of hs
            obtain ⟨o, ho⟩ := Option.ne_none_iff_exists'.mp o2.isob
            obtain ⟨k1, k2, k3⟩ := hR3.keep a o (.inr ⟨hs, e2, ho⟩)
            refine .of_own hs ⟨a, e2, o2.mono s2 p2 (k1.trans ho.symm), k2, g2, k3, fun i t h ht z => ?_⟩
            obtain ⟨b, q1, _, _, q4, _⟩ := hR3.own i t h ht
            rw [q1] at z; cases z
            exact q4 o (.inr ⟨hs, e2, ho⟩)
        · intro a j t hs ev ht hv hj
          obtain ⟨b, e2, o2, _⟩ := r1.own_of hs
          rw [e2] at ev; cases ev
          obtain ⟨o, ho⟩ := Option.ne_none_iff_exists'.mp o2.isob
          obtain ⟨w, hw, rw'⟩ := hr.get ht
          rw [hj] at hw; cases hw
          obtain ⟨c, e3, _, _, g3, _⟩ := rw'.own_of hv
          cases e3
          exact g3 o (.inr ⟨hs, e2, ho⟩)
      | exc x e2 S2 =>
        rw [q2] at hp
        have hp : postX G W ent σ F rho x e2 S2 := hp
        exact (hp.less (ent' := ent2) (fun a o z => Or.inl z) rfl rfl).mono s1 p1
      | stuck => rw [q2] at hp; exact hp
    | exc x e1 S1 => rw [q] at hp; exact hp
    | stuck => rw [q] at hp; exact hp
theorem R.setAll {G : Gb} {ent : Ent} {S : Sto} {H F : Hp} {rho : List Addr} : ∀ {is : List Nat} {vs : List V} {ss : List Slot} {e : Env} {σ : L2.St}, is.length = ss.length → R G ent e S σ H F rho → WRL G ent rho F H e σ vs ss → R G ent (setAll is ss e) S (setAll is vs σ) H F rho
  | [], vs, ss, e, σ, hl, r, h => by
    cases h with
    | nil => exact r
    | cons _ _ _ => simp at hl
  | i :: is, vs0, ss0, e, σ, hl, r, h0 => by
   cases h0 with
   | nil => simp at hl
   | @cons v s vs ss h t d =>
    have step : ∀ {vs' : List V} {ss' : List Slot}, (∀ (a : Addr) (j : Nat) (t : Slot), s.isVal = false → v = .ref a → ss'[j]? = some t → t.isVal = false → vs'[j]? ≠ some (.ref a)) → WRL G ent rho F H e σ vs' ss' → WRL G ent rho F H (e.set i (some s)) (σ.set i (some v)) vs' ss' := by
      intro vs' ss' d' t'
      induction t' with
      | nil => exact .nil
      | @cons v2 s2 vs2 ss2 r2 t2 d2 ih =>
        refine .cons ?_ (ih fun a j t hs ev hj ht => ?_) d2
        · by_cases hs : s2.isVal = true
          · cases s2 with
            | val _ => exact r2
            | own _ => cases hs
            | ownd _ => cases hs
            | ownt _ => cases hs
          · have hs : s2.isVal = false := by simpa using hs
            obtain ⟨a, e2, o2, f2, g2, n2, nb⟩ := r2.own_of hs
            refine .of_own hs ⟨a, e2, o2, f2, g2, n2, fun k t hk ht z => ?_⟩
            rcases get_set hk with ⟨e1, q⟩ | ⟨ne, q⟩
            · cases q
              subst e1
              rcases get_set z with ⟨_, q⟩ | ⟨ne, _⟩
              · have q' : v = .ref a := by cases q; rfl
                exact d' a 0 s2 ht q' rfl hs (by rw [e2]; rfl)
              · exact ne rfl
            · rw [List.getElem?_set_ne ne] at z
              exact nb k t q ht z
        · have := d' a (j + 1) t hs ev (by simpa using hj) ht
          simpa using this
    exact R.setAll (is := is) (vs := vs) (ss := ss) (e := e.set i (some s)) (σ := σ.set i (some v)) (by simpa using hl) (r.setW h i) (step d t)
def sPar (is : List Nat) (ms : List Wx) : Sm := fun e S => (evW ms e S).bind fun ss e S => .ok .next (setAll is ss e) S
theorem evW_length : ∀ {ms : List Wx} {e e' : Env} {S S' : Sto} {ds : List Slot}, evW ms e S = .ok ds e' S' → ds.length = ms.length
  | [], e, e', S, S', ds, h => by cases h; rfl
  | m :: ms, e, e', S, S', ds, h => by
    unfold evW at h
    cases q : m e S with
    | ok d e1 S1 =>
      rw [q] at h
      have h : (evW ms e1 S1).bind (fun ds e S => .ok (d :: ds) e S) = .ok ds e' S' := h
      cases q2 : evW ms e1 S1 with
      | ok ws e2 S2 => rw [q2] at h; cases h; rw [List.length_cons, List.length_cons, evW_length q2]
      | exc x e2 S2 => rw [q2] at h; cases h
      | stuck => rw [q2] at h; cases h
    | exc x e1 S1 => rw [q] at h; cases h
    | stuck => rw [q] at h; cases h
theorem postW.imp {G : Gb} {W : WX} {ent : Ent} {σ : L2.St} {F : Hp} {rho : List Addr} {Q Q' : VK} {o : Out Slot} (h : postW G W ent σ F rho Q o) (k : ∀ v H, Q v H → Q' v H) : postW G W ent σ F rho Q' o := by
  cases o with
  | ok s e S => exact fun v H' F' rho' r sb p w => k _ _ (h v H' F' rho' r sb p w)
  | exc x e S => exact h
  | stuck => exact h
theorem tWs_imp {G : Gb} {W : WX} : ∀ {ms : List Wx} {σ : L2.St} {H : Hp} {Q Q' : List V → Hp → Prop}, tWs G W ms σ H Q → (∀ vs H, Q vs H → Q' vs H) → tWs G W ms σ H Q'
  | [], σ, H, Q, Q', h, k => k _ _ h
  | m :: ms, σ, H, Q, Q', h, k => by
    obtain ⟨ent, e, S, F, rho, hR, hp⟩ := h
    exact ⟨ent, e, S, F, rho, hR, hp.imp fun v H1 q => tWs_imp q fun vs H2 z => k _ _ z⟩
/-- from the values' reading to the slots -/
theorem par_core {G : Gb} {W : WX} {ent : Ent} {is : List Nat} {ms : List Wx} {D : Ends} {σ : L2.St} {H : Hp} (hl : is.length = ms.length) (h : rdS G W ent (sPar is ms) D σ H) :
    tWs G W ms σ H (fun vs H' => vs.length = ms.length ∧ ∀ H2, (H2 = H' ∨ ∃ p o, H' p = none ∧ H2 = upd H' p o) → D.nx (setAll is vs σ) H2) := by
  obtain ⟨e, S, F, rho, hR, hp⟩ := h
  refine tWs_of hR ?_
  unfold sPar at hp
  cases q : evW ms e S with
  | ok ss e1 S1 =>
    rw [q] at hp
    intro vs H' F' rho' r s p l
    refine ⟨by rw [l.length, evW_length q], fun H2 h2 => ?_⟩
    have r1 := R.setAll (is := is) (by rw [hl, evW_length q]) r l
    rcases h2 with rfl | ⟨a, o, ha, rfl⟩
    · exact hp _ _ F' rho' r1 s p
    · exact hp _ _ F' rho' (r1.lay ha) s p
  | exc x e1 S1 => rw [q] at hp; exact hp σ
  | stuck => rw [q] at hp; exact hp
/-- the targets' names -/
def gNames : List Nat → TGs
  | [] => gNil
  | i :: is => gCons (gName i) (gNames is)
theorem gNames_of : ∀ {is : List Nat} {vs : List V} {σ : L2.St} {H : Hp} {Q : L2.St → Hp → Prop}, vs.length = is.length → Q (setAll is vs σ) H → gNames is vs σ H Q
  | [], [], _, _, _, _, h => ⟨rfl, h⟩
  | i :: is, v :: vs, σ, H, Q, hl, h => ⟨v, vs, rfl, gNames_of (by simpa using hl) h⟩
  | [], _ :: _, _, _, _, hl, _ => by simp at hl
  | _ :: _, [], _, _, _, hl, _ => by simp at hl
section
variable {X : Cx} {W : WX} {ent : Ent} {pos : Pos}
theorem wx_of {x : Expr} {m : Wx} (h : ∀ ent, PE X x (rdW X.gb W ent m)) : PE X x (rdWx X.gb W m) := ⟨fun pins s σ H Q I ⟨ent, hq⟩ => (h ent).run pins s σ H Q I hq⟩
/-- the values of a list of expressions, with their rights -/
inductive WxE (X : Cx) (W : WX) : List Expr → List Wx → Prop
  | nil : WxE X W [] []
  | cons {x : Expr} {m : Wx} {es : List Expr} {ms : List Wx} : (∀ ent, PE X x (rdW X.gb W ent m)) → plainA x = true → WxE X W es ms → WxE X W (x :: es) (m :: ms)
theorem pa_wx : ∀ {es : List Expr} {ms : List Wx}, WxE X W es ms → PA X es (tWs X.gb W ms)
  | _, _, .nil => pa_nil
  | _, _, .cons h hp t => pa_cons (wx_of h) (pa_wx t) (star_plain hp _ _)
theorem semS_par2 {i j : Nat} {x y : Str} {a b : Expr} {m n : Wx} {px py pt : Pos} {kt k2 pt2} (hc : X.calm = true) (hN : X.N.Nodup) (hi : X.N[i]? = some x) (hj : X.N[j]? = some y) (hij : i ≠ j)
    (hx : X.env.scope.names.lookup x = some .local) (hy : X.env.scope.names.lookup y = some .local) (ha : WxE X W [a, b] [m, n])
    (hw : swappedStores [.Tuple [.Name x px, .Name y py] kt pt] (.Tuple [a, b] k2 pt2) X.env = pure (some [x, y])) :
    PS X (.Assign [.Tuple [.Name x px, .Name y py] kt pt] (.Tuple [a, b] k2 pt2) pos) (rdS X.gb W ent (sPar [i, j] [m, n])) :=
  (ps_par hc hN hi hj hij hx hy (pa_wx ha) hw rfl).weak fun D σ H h => by
    have := par_core (is := [i, j]) (ms := [m, n]) rfl h
    refine tWs_imp this fun vs H' hq => ?_
    obtain ⟨hl, k⟩ := hq
    match vs, hl with
    | [v, w], _ => exact ⟨v, w, rfl, k H' (.inl rfl)⟩
theorem semS_par3 {i j l : Nat} {x y z : Str} {a b c : Expr} {m n o : Wx} {px py pz pt : Pos} {kt k2 pt2} (hc : X.calm = true) (hN : X.N.Nodup) (hi : X.N[i]? = some x) (hj : X.N[j]? = some y) (hl : X.N[l]? = some z) (hij : i ≠ j) (hil : i ≠ l) (hjl : j ≠ l)
    (hx : X.env.scope.names.lookup x = some .local) (hy : X.env.scope.names.lookup y = some .local) (hz : X.env.scope.names.lookup z = some .local) (ha : WxE X W [a, b, c] [m, n, o])
    (hw : swappedStores [.Tuple [.Name x px, .Name y py, .Name z pz] kt pt] (.Tuple [a, b, c] k2 pt2) X.env = pure (some [x, y, z])) :
    PS X (.Assign [.Tuple [.Name x px, .Name y py, .Name z pz] kt pt] (.Tuple [a, b, c] k2 pt2) pos) (rdS X.gb W ent (sPar [i, j, l] [m, n, o])) :=
  (ps_par3 hc hN hi hj hl hij hil hjl hx hy hz (pa_wx ha) hw rfl).weak fun D σ H h => by
    have := par_core (is := [i, j, l]) (ms := [m, n, o]) rfl h
    refine tWs_imp this fun vs H' hq => ?_
    obtain ⟨hl, k⟩ := hq
    match vs, hl with
    | [u, v, w], _ => exact ⟨u, v, w, rfl, k H' (.inl rfl)⟩
/-- more of them, or such as are no plain locals: by way of a tuple -/
theorem semS_parT {ts es : List Expr} {is : List Nat} {ms : List Wx} {pt pt2 : Pos} {kt k2} (hc : X.calm = true) (hl : is.length = ms.length) (hz : ms.length ≤ sizeLine) (hg : PGs X ts (gNames is)) (ha : WxE X W es ms) (hls : ts.length = is.length)
    (hn : (assignEach ts X.env).length = is.length) (hst : (assignEach ts X.env).findIdx? (·.1) = none)
    (hw : swappedStores [.Tuple ts kt pt] (.Tuple es k2 pt2) X.env = pure none) (hm : (assignEach [.Tuple ts kt pt] X.env).map (·.2) = [assign (.Tuple ts kt pt) X.env]) :
    PS X (.Assign [.Tuple ts kt pt] (.Tuple es k2 pt2) pos) (rdS X.gb W ent (sPar is ms)) :=
  (ps_asg (pe_tup (pa_wx ha)) (pg_tup hc hg hn hst) rfl hw hm).weak fun D σ H h => by
    have := par_core (is := is) (ms := ms) hl h
    refine tWs_imp this fun vs H' hq => ?_
    obtain ⟨hv, k⟩ := hq
    refine ⟨by rw [hv]; exact hz, fun p hp => ⟨p, vs, rfl, .of upd_same, hv.trans hl.symm, gNames_of (hv.trans hl.symm) (k _ (.inr ⟨p, _, hp, rfl⟩))⟩⟩
end
end TM
namespace TM
open PySem PySem.Spec L2
open PyProof.Rows hiding St

/-! targets -/
inductive Tg where
  | nm (i : Nat) | tp (ts : List Tg)
mutual
def Tg.asg : Tg → D → Env → Option Env
  | .nm i, d, e => some (e.set i (some (.val d)))
  | .tp ts, d, e => match d with
    | .tup ds => Tg.asgs ts ds e
    | _ => none
def Tg.asgs : List Tg → List D → Env → Option Env
  | [], ds, e => match ds with
    | [] => some e
    | _ => none
  | t :: ts, ds, e => match ds with
    | d :: ds => match t.asg d e with
      | some e1 => Tg.asgs ts ds e1
      | none => none
    | [] => none
end
mutual
def Tg.slots : Tg → List Nat
  | .nm i => [i]
  | .tp ts => Tg.slotss ts
def Tg.slotss : List Tg → List Nat
  | [] => []
  | t :: ts => t.slots ++ Tg.slotss ts
end
theorem asgs_len : ∀ {ts : List Tg} {ds : List D} {e e' : Env}, Tg.asgs ts ds e = some e' → ds.length = ts.length
  | [], ds, e, e', h => by
    unfold Tg.asgs at h
    split at h
    · rfl
    · cases h
  | t :: ts, ds, e, e', h => by
    unfold Tg.asgs at h
    split at h
    · split at h
      · rw [List.length_cons, List.length_cons, asgs_len h]
      · cases h
    · cases h
def TgR (G : Gb) (g : TG) (t : Tg) : Prop := ∀ {ent : Ent} {e e' : Env} {S : Sto} {σ : L2.St} {H F : Hp} {rho : List Addr} {v : V} {d : D} {Q : L2.St → Hp → Prop}, R G ent e S σ H F rho → Rep G rho F v d → t.asg d e = some e' →
  (∀ σ', R G ent e' S σ' H F rho → σ'.length = σ.length → (∀ j, j ∉ t.slots → σ'[j]? = σ[j]?) → Q σ' H) → g v σ H Q
def TgsR (G : Gb) (g : TGs) (t : List Tg) : Prop := ∀ {ent : Ent} {e e' : Env} {S : Sto} {σ : L2.St} {H F : Hp} {rho : List Addr} {v : List V} {d : List D} {Q : L2.St → Hp → Prop}, R G ent e S σ H F rho → RepL G rho F v d → Tg.asgs t d e = some e' →
  (∀ σ', R G ent e' S σ' H F rho → σ'.length = σ.length → (∀ j, j ∉ Tg.slotss t → σ'[j]? = σ[j]?) → Q σ' H) → g v σ H Q
theorem tg_nm {G : Gb} {i : Nat} : TgR G (gName i) (.nm i) := by
  intro ent e e' S σ H F rho v d Q r h ha q
  unfold Tg.asg at ha
  cases ha
  refine q _ (r.setW (s := .val d) h i) (by rw [List.length_set]) fun j hj => ?_
  have : i ≠ j := fun z => hj (by rw [z]; simp [Tg.slots])
  rw [List.getElem?_set_ne this]
theorem tgs_nil {G : Gb} : TgsR G gNil [] := by
  intro ent e e' S σ H F rho v d Q r h ha q
  unfold Tg.asgs at ha
  split at ha
  · cases ha
    cases h
    exact ⟨rfl, q σ r rfl fun _ _ => rfl⟩
  · cases ha
theorem tgs_cons {G : Gb} {g : TG} {gs : TGs} {t : Tg} {ts : List Tg} (h1 : TgR G g t) (h2 : TgsR G gs ts) : TgsR G (gCons g gs) (t :: ts) := by
  intro ent e e' S σ H F rho v d Q r h ha q
  unfold Tg.asgs at ha
  split at ha
  · split at ha
    · rename_i e1 he1
      cases h with
      | cons ha1 ha2 =>
        refine ⟨_, _, rfl, h1 r ha1 he1 fun σ1 r1 l1 k1 => h2 r1 ha2 ha fun σ2 r2 l2 k2 => q σ2 r2 (l2.trans l1) fun j hj => ?_⟩
        have hj : j ∉ t.slots ∧ j ∉ Tg.slotss ts := by simpa [Tg.slotss] using hj
        exact (k2 j hj.2).trans (k1 j hj.1)
    · cases ha
  · cases ha
theorem tg_tp {G : Gb} {gs : TGs} {ts : List Tg} (h : TgsR G gs ts) : TgR G (gTup G.K ts.length gs) (.tp ts) := by
  intro ent e e' S σ H F rho v d Q r hr ha q
  unfold Tg.asg at ha
  split at ha
  · cases hr with
    | tup t1 t2 z l => exact ⟨_, _, rfl, sqT_mono r.sub t1, by rw [l.length]; exact asgs_len ha, h r l ha q⟩
  · cases ha

/-! what a loop goes over -/
abbrev Itx := Env → Sto → Out (List D)
def WalkD (G : Gb) (rho : List Addr) (F : Hp) (J : It) (ds : List D) : Prop :=
  ds.length ≤ sizeLine ∧ ∃ (Gs : Hp → Prop) (Y : Nat → Hp → V → Hp → Prop), Walk J ds.length Gs Y ∧ (∀ H, Sub F H → Gs H) ∧
    ∀ (i : Nat) (H : Hp) (x : V) (H' : Hp) (d : D) (rho' : List Addr) (F' : Hp), ds[i]? = some d → Pre rho rho' → Sub F F' → Sub F' H → Y i H x H' → ∃ F'', Grow H F' H' F'' ∧ Rep G rho' F'' x d
def postI (G : Gb) (W : WX) (ent : Ent) (σ : L2.St) (F : Hp) (rho : List Addr) (Rc : It → Hp → Prop) : Out (List D) → Prop
  | .ok ds e S => ∀ (J : It) (H' F' : Hp) (rho' : List Addr), R G ent e S σ H' F' rho' → Sub F F' → Pre rho rho' → WalkD G rho' F' J ds → Rc J H'
  | .exc x e S => postX G W ent σ F rho x e S
  | .stuck => False
def rdI (G : Gb) (W : WX) (ent : Ent) (m : Itx) : TI := fun σ H Rc => ∃ (e : Env) (S : Sto) (F : Hp) (rho : List Addr), R G ent e S σ H F rho ∧ postI G W ent σ F rho Rc (m e S)
theorem _root_.L2.PI.weak {X : Cx} {g e : Expr} {t t' : TI} (h : PI X g e t) (w : ∀ σ H Q, t' σ H Q → t σ H Q) : PI X g e t' := ⟨fun pins s σ H Q I q => h.run pins s σ H Q I (w σ H Q q)⟩
/-- the things of a value -/
def itemsD : D → Option (List D)
  | .lst ds => some ds
  | .tup ds => some ds
  | .str x => if x.length ≤ sizeLine then some (x.cps.toList.map fun c => .str ⟨#[c]⟩) else none
  | _ => none
def iVal (m : Ex) : Itx := fun e S => (m e S).bind fun d e S => match itemsD d with
  | some ds => .ok ds e S
  | none => .stuck
theorem walkD_list {G : Gb} {rho : List Addr} {F : Hp} {a : Addr} {xs : List V} {ds : List D} (h : SqL G.K F a xs) (z : xs.length ≤ sizeLine) (l : RepL G rho F xs ds) : WalkD G rho F (Itl G.K a) ds := by
  have w := walk_list (K := G.K) (a := a) (xs := xs)
  rw [l.length] at w
  refine ⟨by rw [← l.length]; exact z, _, _, w, fun H s => sqL_mono s h, fun i H x H' d rho' F' hd p s s2 y => ?_⟩
  obtain ⟨rfl, hx⟩ := y
  obtain ⟨v, hv, r⟩ := l.get hd
  rw [hx] at hv; cases hv
  exact ⟨F', Grow.refl s2, r.mono s p⟩
theorem walkD_tup {G : Gb} {rho : List Addr} {F : Hp} {a : Addr} {xs : List V} {ds : List D} (h : SqT G.K F a xs) (z : xs.length ≤ sizeLine) (l : RepL G rho F xs ds) : WalkD G rho F (Itt G.K a) ds := by
  have w := walk_tup (K := G.K) (a := a) (xs := xs)
  rw [l.length] at w
  refine ⟨by rw [← l.length]; exact z, _, _, w, fun H s => sqT_mono s h, fun i H x H' d rho' F' hd p s s2 y => ?_⟩
  obtain ⟨rfl, hx⟩ := y
  obtain ⟨v, hv, r⟩ := l.get hd
  rw [hx] at hv; cases hv
  exact ⟨F', Grow.refl s2, r.mono s p⟩
theorem walkD_str {G : Gb} {rho : List Addr} {F : Hp} {x : Str} (z : x.length ≤ sizeLine) : WalkD G rho F (Its x) (x.cps.toList.map fun c => .str ⟨#[c]⟩) := by
  have w := walk_str (z := x)
  have hl : (x.cps.toList.map fun c => D.str ⟨#[c]⟩).length = x.cps.size := by simp
  refine ⟨by rw [hl]; exact z, _, _, by rw [hl]; exact w, fun H s => trivial, fun i H v H' d rho' F' hd p s s2 y => ?_⟩
  obtain ⟨rfl, c, hc, rfl⟩ := y
  have : d = .str ⟨#[c]⟩ := by
    rw [List.getElem?_map] at hd
    simp only [Array.getElem?_toList, hc, Option.map_some, Option.some.injEq] at hd
    exact hd.symm
  subst this
  exact ⟨F', Grow.refl s2, .str _⟩
section
variable {X : Cx} {W : WX} {ent : Ent} {pos : Pos}
theorem semI_val {tg x : Expr} {m : Ex} (h : PE X x (rdE X.gb W ent m)) : PI X tg x (rdI X.gb W ent (iVal m)) :=
  ((pi_list h).orr ((pi_tup h).orr (pi_str h))).weak fun σ H Rc ⟨e, S, F, rho, hR, hp⟩ => by
    unfold iVal at hp
    cases q : m e S with
    | ok d e1 S1 =>
      rw [q] at hp
      have hp : postI X.gb W ent σ F rho Rc (match itemsD d with
        | some ds => .ok ds e1 S1
        | none => .stuck) := hp
      split at hp
      · rename_i ds hds
        unfold itemsD at hds
        split at hds
        · cases hds
          refine .inl ⟨e, S, F, rho, hR, ?_⟩
          rw [q]
          intro v H' F' rho' r s p k
          cases k with
          | lst t z l => exact ⟨_, rfl, ⟨_, sqL_mono r.sub t⟩, hp _ H' F' rho' r s p (walkD_list t z l)⟩
        · cases hds
          refine .inr (.inl ⟨e, S, F, rho, hR, ?_⟩)
          rw [q]
          intro v H' F' rho' r s p k
          cases k with
          | tup t _ z l => exact ⟨_, rfl, ⟨_, sqT_mono r.sub t⟩, hp _ H' F' rho' r s p (walkD_tup t z l)⟩
        · split at hds
          · rename_i hz
            cases hds
            refine .inr (.inr ⟨e, S, F, rho, hR, ?_⟩)
            rw [q]
            intro v H' F' rho' r s p k
            cases k
            exact ⟨_, rfl, hp _ H' F' rho' r s p (walkD_str hz)⟩
          · cases hds
        · cases hds
      · exact hp.elim
    | exc x e1 S1 => rw [q] at hp; exact .inl ⟨e, S, F, rho, hR, by rw [q]; exact hp⟩
    | stuck => rw [q] at hp; exact hp.elim
/-- range -/
def rangeD (lo : Int) (n : Nat) (c : Int) : List D := (List.range n).map fun i => .int (lo + (i : Nat) * c)
theorem walkD_range {G : Gb} {rho : List Addr} {F : Hp} {lo : Int} {n : Nat} (z : n ≤ sizeLine) : WalkD G rho F (Itr lo n) (rangeD lo n 1) := by
  have w := walk_range (lo := lo) (n := n)
  have hl : (rangeD lo n 1).length = n := by simp [rangeD]
  refine ⟨by rw [hl]; exact z, _, _, by rw [hl]; exact w, fun H s => trivial, fun i H v H' d rho' F' hd p s s2 y => ?_⟩
  obtain ⟨rfl, rfl⟩ := y
  have hi : i < n := by rw [← hl]; exact (List.getElem?_eq_some_iff.mp hd).1
  have : d = .int (lo + i) := by
    unfold rangeD at hd
    rw [List.getElem?_map, List.getElem?_range hi] at hd
    simp only [Option.map_some, Option.some.injEq, Int.mul_one] at hd
    exact hd.symm
  subst this
  exact ⟨F', Grow.refl s2, .int _⟩
theorem walkD_rangeC {G : Gb} {rho : List Addr} {F : Hp} {lo c : Int} {n : Nat} (z : n ≤ sizeLine) : WalkD G rho F (Itc lo c n) (rangeD lo n c) := by
  have w := walk_rangeC (lo := lo) (c := c) (n := n)
  have hl : (rangeD lo n c).length = n := by simp [rangeD]
  refine ⟨by rw [hl]; exact z, _, _, by rw [hl]; exact w, fun H s => trivial, fun i H v H' d rho' F' hd p s s2 y => ?_⟩
  obtain ⟨rfl, rfl⟩ := y
  have hi : i < n := by rw [← hl]; exact (List.getElem?_eq_some_iff.mp hd).1
  have : d = .int (lo + (i : Nat) * c) := by
    unfold rangeD at hd
    rw [List.getElem?_map, List.getElem?_range hi] at hd
    simp only [Option.map_some, Option.some.injEq] at hd
    exact hd.symm
  subst this
  exact ⟨F', Grow.refl s2, .int _⟩
def range1 : List D → Option (List D)
  | [.int j] => if smI j = true ∧ j.toNat ≤ 16777216 then some (rangeD 0 j.toNat 1) else none
  | _ => none
def range2 : List D → Option (List D)
  | [.int i, .int j] => if smI i = true ∧ smI j = true ∧ (j - i).toNat ≤ 16777216 then some (rangeD i (j - i).toNat 1) else none
  | _ => none
/-- by minus ones -/
def range3 : List D → Option (List D)
  | [.int i, .int j, .int c] => if c = -1 ∧ smI i = true ∧ smI j = true ∧ (i - j).toNat ≤ 16777216 then some (rangeD i (i - j).toNat (-1)) else none
  | _ => none
def iRange (f : List D → Option (List D)) (os : List Opr) : Itx := fun e S => (evR os e S).bind fun ds e S => match f ds with
  | some es => .ok es e S
  | none => .stuck
/-- by the operands' values -/
theorem range_core {G : Gb} {f : List D → Option (List D)} {os : List Opr} {σ : L2.St} {H : Hp} {Rc : It → Hp → Prop} {k : List V → Hp → Prop} (hf : ∀ {rho F H vs ds es}, RepBL G rho F H vs ds → f ds = some es → (∀ J, WalkD G rho F J es → Rc J H) → k vs H)
    (h : rdI G W ent (iRange f os) σ H Rc) : tOs G W ent os σ H k := by
  obtain ⟨e, S, F, rho, hR, hp⟩ := h
  refine tOs_R hR ?_
  unfold iRange at hp
  cases q : evR os e S with
  | ok ds e1 S1 =>
    rw [q] at hp
    intro vs H' F' rho' r s p kk
    have hp : postI G W ent σ F rho Rc (match f ds with
      | some es => .ok es e1 S1
      | none => .stuck) := hp
    split at hp
    · rename_i es hes
      exact hf kk hes fun J w => hp J H' F' rho' r s p w
    · exact hp.elim
  | exc x e1 S1 => rw [q] at hp; exact hp
  | stuck => rw [q] at hp; exact hp.elim
theorem semI_range1 {tg a : Expr} {os : List Opr} {p : Pos} (hg : Gl X "range") (hm : X.mg "range" = none) (ha : OpsE X W ent [a] os) (hpl : plainA a = true) : PI X tg (.Call (.Name "range" p) [a] [] pos) (rdI X.gb W ent (iRange range1 os)) :=
  (pi_range1 hg hm (pa_ops ha) (star_plain hpl _ _)).weak fun σ H Rc h => range_core (fun {rho F H vs ds es} l hf q => by
    unfold range1 at hf
    split at hf
    · split at hf
      · rename_i hc
        cases hf
        obtain ⟨v, rfl, h1⟩ := repBL1 l
        cases repB_int h1
        have h9 := smI_of hc.1
        refine ⟨_, rfl, by omega, by omega, q _ (walkD_range ?_)⟩
        have : (sizeLine : Nat) = 16777216 := sizeLine_eq
        omega
      · cases hf
    · cases hf) h
theorem semI_range2 {tg a b : Expr} {os : List Opr} {p : Pos} (hg : Gl X "range") (hm : X.mg "range" = none) (ha : OpsE X W ent [a, b] os) (hp1 : plainA a = true) (hp2 : plainA b = true) : PI X tg (.Call (.Name "range" p) [a, b] [] pos) (rdI X.gb W ent (iRange range2 os)) :=
  (pi_range2 hg hm (pa_ops ha) (by rw [star_plain hp1, star_plain hp2]; rfl) (star_plain hp2 _ _)).weak fun σ H Rc h => range_core (fun {rho F H vs ds es} l hf q => by
    unfold range2 at hf
    split at hf
    · split at hf
      · rename_i hc
        cases hf
        obtain ⟨v, w, rfl, h1, h2⟩ := repBL2 l
        cases repB_int h1; cases repB_int h2
        have h8 := smI_of hc.1
        have h9 := smI_of hc.2.1
        refine ⟨_, _, rfl, ⟨by omega, by omega, by omega, by omega⟩, q _ (walkD_range ?_)⟩
        have : (sizeLine : Nat) = 16777216 := sizeLine_eq
        omega
      · cases hf
    · cases hf) h
theorem semI_range3 {tg a b c : Expr} {os : List Opr} {p : Pos} (hg : Gl X "range") (hm : X.mg "range" = none) (ha : OpsE X W ent [a, b, c] os) (hp1 : plainA a = true) (hp2 : plainA b = true) (hp3 : plainA c = true) : PI X tg (.Call (.Name "range" p) [a, b, c] [] pos) (rdI X.gb W ent (iRange range3 os)) :=
  (pi_range3 hg hm (pa_ops ha) (star_plain hp1 _ _) (back_plain (by simp [hp2, hp3]))).weak fun σ H Rc h => range_core (fun {rho F H vs ds es} l hf q => by
    unfold range3 at hf
    split at hf
    · split at hf
      · rename_i hc
        cases hf
        obtain ⟨v, w, u, rfl, h1, h2, h3⟩ := repBL3 l
        cases repB_int h1; cases repB_int h2; cases repB_int h3
        have e1 := hc.1
        subst e1
        have h8 := smI_of hc.2.1
        have h9 := smI_of hc.2.2.1
        refine ⟨_, _, _, _, rfl, ?_, q _ (walkD_rangeC ?_)⟩
        · exact RgC.neg (by omega) (by omega) (by omega) (by omega)
        · have : (sizeLine : Nat) = 16777216 := sizeLine_eq
          omega
      · cases hf
    · cases hf) h
end
end TM
namespace TM
open PySem PySem.Spec L2
open PyProof.Rows hiding St

/-! loops -/
def forL (t : Tg) (m : Sm) : List D → Sm
  | [], e, S => .ok .next e S
  | d :: ds, e, S => match t.asg d e with
    | some e1 => (m e1 S).bind fun f e S => match f with
      | .next => forL t m ds e S
      | .cont => forL t m ds e S
      | .brk => .ok .next e S
      | .ret s => .ok (.ret s) e S
    | none => .stuck
def sFor (it : Itx) (t : Tg) (m : Sm) : Sm := fun e S => (it e S).bind fun ds e S => forL t m ds e S
def whileL (t : Tx) (m : Sm) : Nat → Sm
  | 0, _, _ => .stuck
  | n + 1, e, S => (t e S).bind fun b e S => if b = true then (m e S).bind fun f e S => match f with
      | .next => whileL t m n e S
      | .cont => whileL t m n e S
      | .brk => .ok .next e S
      | .ret s => .ok (.ret s) e S
    else .ok .next e S
section
variable {X : Cx} {W : WX} {ent : Ent} {pos : Pos}
theorem semS_for {tg iter : Expr} {body : List Stmt} {it : Itx} {t : Tg} {m : Sm} {g : TG} (hp : PassesOwn (model X.prog X.w) X.A X.env X.xe) (hc : X.calm = true) (hi : PI X tg iter (rdI X.gb W ent it)) (hg : PG X tg g) (ht : TgR X.gb g t) (hb : PSs X body (rdS X.gb W ent m))
    (hs : ∀ x, foldedSetIterable iter X.env x = pure x) : PS X (.For tg iter body [] pos) (rdS X.gb W ent (sFor it t m)) := (ps_for hp hc hi hg hb hs).weak fun D σ H ⟨e, S, F, rho, hR, hq⟩ => by
  refine ⟨e, S, F, rho, hR, ?_⟩
  unfold sFor at hq
  cases q : it e S with
  | ok ds e1 S1 =>
    rw [q] at hq
    have hq : postS X.gb W ent F rho D (forL t m ds e1 S1) := hq
    intro J H1 F1 rho1 r1 s1 p1 wd
    obtain ⟨_, Gs, Y, w, hGs, hY⟩ := wd
    refine for_it w (fun i σ H => ∃ (e : Env) (S : Sto) (F2 : Hp) (rho2 : List Addr), R X.gb ent e S σ H F2 rho2 ∧ Sub F1 F2 ∧ Pre rho1 rho2 ∧ postS X.gb W ent F2 rho2 D (forL t m (ds.drop i) e S)) ⟨e1, S1, F1, rho1, r1, Sub.refl _, Pre.refl _, postS.mono s1 p1 hq⟩
      (fun i σ H _ ⟨_, _, F2, _, r2, s2, _, _⟩ => hGs H (s2.trans r2.sub)) (fun i x σ H H' hi hP hy => ?_) (fun σ H hP => ?_)
    · obtain ⟨e2, S2, F2, rho2, r2, s2, p2, hq2⟩ := hP
      have hd : ds.drop i = ds[i] :: ds.drop (i + 1) := List.drop_eq_getElem_cons hi
      rw [hd] at hq2
      obtain ⟨F3, g3, rep3⟩ := hY i H x H' ds[i] rho2 F2 (List.getElem?_eq_getElem hi) p2 s2 r2.sub hy
      have r3 := r2.grow g3
      have s3 := g3.sub r2.sub
      have hq2 : postS X.gb W ent F2 rho2 D (match t.asg ds[i] e2 with
        | some e1 => (m e1 S2).bind fun f e S => match f with
          | .next => forL t m (ds.drop (i + 1)) e S
          | .cont => forL t m (ds.drop (i + 1)) e S
          | .brk => .ok .next e S
          | .ret s => .ok (.ret s) e S
        | none => .stuck) := hq2
      split at hq2
      · rename_i e3 he3
        refine ht r3 rep3 he3 fun σ3 r4 _ _ => ⟨e3, S2, F3, rho2, r4, ?_⟩
        cases q4 : m e3 S2 with
        | ok f e5 S5 =>
          rw [q4] at hq2
          intro σ5 H5 F5 rho5 r5 s5 p5
          cases f with
          | next => exact ⟨e5, S5, F5, rho5, r5, (s2.trans s3).trans s5, p2.trans p5, postS.mono (s3.trans s5) p5 hq2⟩
          | cont => exact ⟨e5, S5, F5, rho5, r5, (s2.trans s3).trans s5, p2.trans p5, postS.mono (s3.trans s5) p5 hq2⟩
          | brk => exact hq2 σ5 H5 F5 rho5 r5 (s3.trans s5) p5
          | ret sl => exact hq2 σ5 H5 F5 rho5 r5 (s3.trans s5) p5
        | exc x e5 S5 => rw [q4] at hq2; exact fun σ => postX.mono s3 (Pre.refl _) (hq2 σ)
        | stuck => rw [q4] at hq2; exact hq2.elim
      · exact hq2.elim
    · obtain ⟨e2, S2, F2, rho2, r2, s2, p2, hq2⟩ := hP
      rw [List.drop_length] at hq2
      exact hq2 σ H F2 rho2 r2 (Sub.refl _) (Pre.refl _)
  | exc x e1 S1 => rw [q] at hq; exact hq σ
  | stuck => rw [q] at hq; exact hq.elim
theorem semS_while {c : Expr} {body : List Stmt} {t : Tx} {m : Sm} (n : Nat) (hp : PassesOwn (model X.prog X.w) X.A X.env X.xe) (hc : PT X c (rdT X.gb W ent t)) (hb : PSs X body (rdS X.gb W ent m)) : PS X (.While c body [] pos) (rdS X.gb W ent (whileL t m n)) :=
  (ps_while hp hc hb).weak fun D σ H ⟨e, S, F, rho, hR, hq⟩ => by
    refine ⟨fun k σ H => ∃ (e : Env) (S : Sto) (F2 : Hp) (rho2 : List Addr), R X.gb ent e S σ H F2 rho2 ∧ postS X.gb W ent F2 rho2 D (whileL t m k e S), ⟨n, e, S, F, rho, hR, hq⟩, fun k σ H hW => ?_⟩
    obtain ⟨e, S, F, rho, hR, hq⟩ := hW
    cases k with
    | zero => exact hq.elim
    | succ k =>
      refine ⟨e, S, F, rho, hR, ?_⟩
      have hq : postS X.gb W ent F rho D ((t e S).bind fun b e S => if b = true then (m e S).bind fun f e S => match f with
          | .next => whileL t m k e S
          | .cont => whileL t m k e S
          | .brk => .ok .next e S
          | .ret s => .ok (.ret s) e S
        else .ok .next e S) := hq
      cases q : t e S with
      | ok b e1 S1 =>
        rw [q] at hq
        intro H1 F1 rho1 r1 s1 p1
        cases b with
        | false => exact hq σ H1 F1 rho1 r1 s1 p1
        | true =>
          have hq : postS X.gb W ent F rho D ((m e1 S1).bind fun f e S => match f with
            | .next => whileL t m k e S
            | .cont => whileL t m k e S
            | .brk => .ok .next e S
            | .ret s => .ok (.ret s) e S) := hq
          refine ⟨fun σ H => ∃ (e : Env) (S : Sto) (F2 : Hp) (rho2 : List Addr), R X.gb ent e S σ H F2 rho2 ∧ postS X.gb W ent F2 rho2 D (whileL t m k e S), fun σ' H' hN => ⟨k, Nat.lt_succ_self _, hN⟩, e1, S1, F1, rho1, r1, ?_⟩
          cases q4 : m e1 S1 with
          | ok f e5 S5 =>
            rw [q4] at hq
            intro σ5 H5 F5 rho5 r5 s5 p5
            cases f with
            | next => exact ⟨e5, S5, F5, rho5, r5, postS.mono (s1.trans s5) (p1.trans p5) hq⟩
            | cont => exact ⟨e5, S5, F5, rho5, r5, postS.mono (s1.trans s5) (p1.trans p5) hq⟩
            | brk => exact hq σ5 H5 F5 rho5 r5 (s1.trans s5) (p1.trans p5)
            | ret sl => exact hq σ5 H5 F5 rho5 r5 (s1.trans s5) (p1.trans p5)
          | exc x e5 S5 => rw [q4] at hq; exact fun σ => postX.mono s1 p1 (hq σ)
          | stuck => rw [q4] at hq; exact hq.elim
      | exc x e1 S1 => rw [q] at hq; exact hq σ
      | stuck => rw [q] at hq; exact hq.elim
end

/-! comprehensions -/
def wipeE (e : Env) : List Nat → Env
  | [] => e
  | v :: vs => (wipeE e vs).set v none
def backE (e0 e : Env) : List Nat → Env
  | [] => e
  | v :: vs => (backE e0 e vs).set v ((e0[v]?).getD none)
/-- no slot of these is owned -/
def plainS (e : Env) (vs : List Nat) : Bool := vs.all fun v => match e[v]? with
  | some (some s) => s.isVal
  | _ => true
theorem wipeE_some {e : Env} {i : Nat} {s : Slot} : ∀ {vs : List Nat}, (wipeE e vs)[i]? = some (some s) → e[i]? = some (some s) ∧ i ∉ vs
  | [], h => ⟨h, by simp⟩
  | v :: vs, h => by
    unfold wipeE at h
    rcases get_set h with ⟨_, q⟩ | ⟨ne, q⟩
    · cases q
    · obtain ⟨h1, h2⟩ := wipeE_some q
      exact ⟨h1, by simp only [List.mem_cons, not_or]; exact ⟨fun z => ne z.symm, h2⟩⟩
theorem wipeE_length (e : Env) : ∀ vs : List Nat, (wipeE e vs).length = e.length
  | [] => rfl
  | v :: vs => by unfold wipeE; rw [List.length_set, wipeE_length e vs]
theorem backE_length (e0 e : Env) : ∀ vs : List Nat, (backE e0 e vs).length = e.length
  | [] => rfl
  | v :: vs => by unfold backE; rw [List.length_set, backE_length e0 e vs]
theorem wipe_ne {σ : L2.St} {i : Nat} : ∀ {vs : List Nat}, i ∉ vs → (wipe σ vs)[i]? = σ[i]?
  | [], _ => rfl
  | v :: vs, h => by
    simp only [List.mem_cons, not_or] at h
    unfold wipe
    rw [List.getElem?_set_ne (fun z => h.1 z.symm), wipe_ne h.2]
theorem backE_some {e0 e : Env} {i : Nat} {s : Slot} : ∀ {vs : List Nat}, (backE e0 e vs)[i]? = some (some s) → (i ∈ vs ∧ e0[i]? = some (some s)) ∨ (i ∉ vs ∧ e[i]? = some (some s))
  | [], h => .inr ⟨by simp, h⟩
  | v :: vs, h => by
    unfold backE at h
    rcases get_set h with ⟨e1, q⟩ | ⟨ne, q⟩
    · subst e1
      refine .inl ⟨List.mem_cons_self .., ?_⟩
      cases z : e0[v]? with
      | none => rw [z] at q; cases q
      | some o => rw [z] at q; exact congrArg some q.symm
    · rcases backE_some q with ⟨h1, h2⟩ | ⟨h1, h2⟩
      · exact .inl ⟨List.mem_cons_of_mem _ h1, h2⟩
      · exact .inr ⟨by simp only [List.mem_cons, not_or]; exact ⟨fun z => ne z.symm, h1⟩, h2⟩
section
variable {G : Gb} {W : WX} {ent : Ent} {e : Env} {S : Sto} {σ : L2.St} {H F H' F' : Hp} {rho rho' : List Addr}
theorem R.wipe (r : R G ent e S σ H F rho) (vs : List Nat) : R G ent (wipeE e vs) S (L2.wipe σ vs) H F rho where
  len := by rw [wipeE_length, wipe_length]; exact r.len
  sub := r.sub
  val := fun i d h => by
    obtain ⟨h1, h2⟩ := wipeE_some h
    rw [wipe_ne h2]; exact r.val i d h1
  own := fun i s h hs => by
    obtain ⟨h1, h2⟩ := wipeE_some h
    rw [wipe_ne h2]; exact r.own i s h1 hs
  sep := fun i j s t a h hs k ht x y => by
    obtain ⟨h1, h2⟩ := wipeE_some h
    obtain ⟨k1, k2⟩ := wipeE_some k
    rw [wipe_ne h2] at x
    rw [wipe_ne k2] at y
    exact r.sep i j s t a h1 hs k1 ht x y
  slen := r.slen
  sto := r.sto
  nod := r.nod
  keep := r.keep
  sub0 := r.sub0
  pre0 := r.pre0
theorem R.back {e0 : Env} {S0 : Sto} {H0 F0 : Hp} {rho0 : List Addr} {vs : List Nat} (r0 : R G ent e0 S0 σ H0 F0 rho0) (hp : plainS e0 vs = true) (r : R G ent e S (L2.wipe σ vs) H F rho) (s : Sub F0 F) (p : Pre rho0 rho) : R G ent (backE e0 e vs) S σ H F rho where
  len := by rw [backE_length, r.len, wipe_length]
  sub := r.sub
  val := fun i d h => by
    rcases backE_some h with ⟨h1, h2⟩ | ⟨h1, h2⟩
    · obtain ⟨v, q1, q2⟩ := r0.val i d h2
      exact ⟨v, q1, q2.mono s p⟩
    · obtain ⟨v, q1, q2⟩ := r.val i d h2
      exact ⟨v, (wipe_some q1).1, q2⟩
  own := fun i t h hs => by
    rcases backE_some h with ⟨h1, h2⟩ | ⟨h1, h2⟩
    · unfold plainS at hp
      rw [List.all_eq_true] at hp
      have := hp i h1
      rw [h2] at this
      have this : t.isVal = true := this
      rw [hs] at this; cases this
    · obtain ⟨a, q1, q2⟩ := r.own i t h2 hs
      exact ⟨a, (wipe_some q1).1, q2⟩
  sep := fun i j t u a h hs k ht x y => by
    have key : ∀ (i : Nat) (t : Slot), (backE e0 e vs)[i]? = some (some t) → t.isVal = false → i ∉ vs ∧ e[i]? = some (some t) := fun i t h hs => by
      rcases backE_some h with ⟨h1, h2⟩ | q
      · unfold plainS at hp
        rw [List.all_eq_true] at hp
        have := hp i h1
        rw [h2] at this
        have this : t.isVal = true := this
        rw [hs] at this; cases this
      · exact q
    obtain ⟨n1, q1⟩ := key i t h hs
    obtain ⟨n2, q2⟩ := key j u k ht
    exact r.sep i j t u a q1 hs q2 ht (by rw [wipe_ne n1]; exact x) (by rw [wipe_ne n2]; exact y)
  slen := r.slen
  sto := r.sto
  nod := r.nod
  keep := r.keep
  sub0 := r.sub0
  pre0 := r.pre0
end
end TM
namespace TM
open PySem PySem.Spec L2
open PyProof.Rows hiding St

/-! list comprehensions -/
/-- no exception leaves -/
def W0 : WX := fun _ _ _ _ => False
theorem takes0 {X : Cx} : Takes X W0 := fun _ _ ⟨_, _, _, _, _, _, _, _, _, _, _, _, _, _, _, _, w⟩ => w.elim
def rdEx (G : Gb) (m : Ex) : TE := fun σ H Q => ∃ ent, rdE G W0 ent m σ H Q
def rdTx (G : Gb) (m : Tx) : TT := fun σ H Q => ∃ ent, rdT G W0 ent m σ H Q
def rdIx (G : Gb) (m : Itx) : TI := fun σ H Q => ∃ ent, rdI G W0 ent m σ H Q
/-- what the elements come to, from the items ds on; B does a turn -/
abbrev Turn := List D → Env → Sto → Out (List D)
def compL (vs : List Nat) (t : Tg) (tt : Tx) (B : Turn) : List D → Turn
  | [], acc, e, S => .ok acc e S
  | d :: ds, acc, e, S => match t.asg d e with
    | none => .stuck
    | some e1 => match tt e1 S with
      | .ok true e2 S2 => match B acc e2 S2 with
        | .ok acc3 e3 S3 => compL vs t tt B ds acc3 (wipeE e3 vs) S3
        | _ => .stuck
      | .ok false e2 S2 => compL vs t tt B ds acc (wipeE e2 vs) S2
      | _ => .stuck
def turn1 (m : Ex) : Turn := fun acc e S => match m e S with
  | .ok y e S => if acc.length < sizeLine then .ok (acc ++ [y]) e S else .stuck
  | _ => .stuck
def turn2 (it : Itx) (vs : List Nat) (t : Tg) (tt : Tx) (m : Ex) : Turn := fun acc e S => match it e S with
  | .ok ds e S => compL vs t tt (turn1 m) ds acc (wipeE e vs) S
  | _ => .stuck
def wCompB (it : Itx) (vs : List Nat) (t : Tg) (tt : Tx) (B : Turn) : Wx := fun e S => (it e S).bind fun ds e1 S1 => if plainS e1 vs = true then
    match compL vs t tt B ds [] (wipeE e1 vs) S1 with
    | .ok acc e2 S2 => .ok (.own acc) (backE e1 e2 vs) S2
    | _ => .stuck
  else .stuck
def wComp (it : Itx) (vs : List Nat) (t : Tg) (tt : Tx) (m : Ex) : Wx := wCompB it vs t tt (turn1 m)
def wComp2 (it : Itx) (vs : List Nat) (t : Tg) (tt : Tx) (it1 : Itx) (vs1 : List Nat) (t1 : Tg) (tt1 : Tx) (m : Ex) : Wx := wCompB it vs t tt (turn2 it1 vs1 t1 tt1 m)
/-- the list that is being made stands besides -/
def Ent.hold (ent : Ent) (p : Addr) (o : HO) : Ent := ⟨fun a u => ent.Pr a u ∨ (a = p ∧ u = o), ent.F, ent.rho⟩
theorem wipe_same {σ σ' : L2.St} {vs : List Nat} (hl : σ'.length = σ.length) (h : ∀ j, j ∉ vs → σ'[j]? = σ[j]?) : wipe σ' vs = wipe σ vs := by
  apply List.ext_getElem?
  intro i
  by_cases hi : i ∈ vs
  · have : ∀ τ : L2.St, (wipe τ vs)[i]? = if i < τ.length then some none else none := by
      intro τ
      clear h hl
      induction vs with
      | nil => cases hi
      | cons v vs ih =>
        unfold wipe
        by_cases e : v = i
        · subst e
          by_cases hl : v < τ.length
          · rw [if_pos hl, List.getElem?_set_self (by rw [wipe_length]; exact hl)]
          · rw [if_neg hl, List.getElem?_eq_none (by rw [List.length_set, wipe_length]; omega)]
        · rw [List.getElem?_set_ne e]
          rcases List.mem_cons.mp hi with q | q
          · exact absurd q.symm e
          · exact ih q
    rw [this, this, hl]
  · rw [wipe_ne hi, wipe_ne hi, h i hi]
section
variable {G : Gb} {ent : Ent}
theorem R.held {e : Env} {S : Sto} {σ : L2.St} {H F : Hp} {rho : List Addr} (r : R G ent e S σ H F rho) {p : Addr} {o : HO} (hp : H p = some o) (hf : F p = none) (hr : p ∉ rho)
    (hn : ∀ (i : Nat) (t : Slot), e[i]? = some (some t) → t.isVal = false → σ[i]? ≠ some (some (.ref p))) : R G (ent.hold p o) e S σ H F rho where
  len := r.len
  sub := r.sub
  val := r.val
  own := fun i s h hs => by
    obtain ⟨a, q1, q2, q3, q4, q5⟩ := r.own i s h hs
    refine ⟨a, q1, q2, q3, fun u z => ?_, q5⟩
    rcases z with z | ⟨rfl, _⟩
    · exact q4 u z
    · exact hn i s h hs q1
  sep := r.sep
  slen := r.slen
  sto := r.sto
  nod := r.nod
  keep := fun a u h => by
    rcases h with h | ⟨rfl, rfl⟩
    · exact r.keep a u h
    · exact ⟨hp, hf, hr⟩
  sub0 := r.sub0
  pre0 := r.pre0
/-- an object that is nobody's is changed -/
theorem R.poke {e : Env} {S : Sto} {σ : L2.St} {H F : Hp} {rho : List Addr} (r : R G ent e S σ H F rho) {p : Addr} {o : HO} (hf : F p = none) (hr : p ∉ rho) (h0 : ∀ o, ¬ ent.Pr p o)
    (hn : ∀ (i : Nat) (t : Slot), e[i]? = some (some t) → t.isVal = false → σ[i]? ≠ some (some (.ref p))) : R G ent e S σ (upd H p o) F rho where
  len := r.len
  sub := fun a u h => by
    rw [upd_ne (fun z => by subst z; rw [hf] at h; cases h)]; exact r.sub a u h
  val := r.val
  own := fun i s h hs => by
    obtain ⟨a, q1, q2, q3, q4, q5⟩ := r.own i s h hs
    exact ⟨a, q1, q2.mono (Sub.refl _) (Pre.refl _) (upd_ne (fun z : a = p => hn i s h hs (by rw [← z]; exact q1))), q3, q4, q5⟩
  sep := r.sep
  slen := r.slen
  sto := fun n u a h1 h2 => by
    obtain ⟨q, f⟩ := r.sto n u a h1 h2
    exact ⟨q.mono (Sub.refl _) (Pre.refl _) (upd_ne (fun z : a = p => hr (by rw [← z]; exact List.mem_of_getElem? h2))), f⟩
  nod := r.nod
  keep := fun a u h => by
    obtain ⟨k1, k2, k3⟩ := r.keep a u h
    exact ⟨by rw [upd_ne (fun z : a = p => h0 u (by rw [← z]; exact h))]; exact k1, k2, k3⟩
  sub0 := r.sub0
  pre0 := r.pre0
/-- the list at p of a comprehension -/
structure Held (G : Gb) (ent : Ent) (rho : List Addr) (F H : Hp) (p : Addr) (acc : List D) : Prop where
  at_ : ∃ xs, H p = some (.lst xs) ∧ RepL G rho F xs acc
  fr : F p = none
  nr : p ∉ rho
  np : ∀ o, ¬ ent.Pr p o
  ln : acc.length ≤ sizeLine
theorem Held.get {ent : Ent} {rho : List Addr} {F H : Hp} {p : Addr} {acc : List D} (h : Held G ent rho F H p acc) : ∃ o, H p = some o := let ⟨xs, q, _⟩ := h.at_; ⟨_, q⟩
/-- behind a step that kept the list -/
theorem Held.step {e : Env} {S : Sto} {σ : L2.St} {H F : Hp} {rho : List Addr} {H' F' : Hp} {rho' : List Addr} {p : Addr} {acc : List D} {o : HO} (h : Held G ent rho F H p acc) (ho : H p = some o) (r : R G (ent.hold p o) e S σ H' F' rho') (s : Sub F F') (q : Pre rho rho') :
    Held G ent rho' F' H' p acc ∧ R G ent e S σ H' F' rho' ∧ ∀ (i : Nat) (t : Slot), e[i]? = some (some t) → t.isVal = false → σ[i]? ≠ some (some (.ref p)) := by
  obtain ⟨xs, h1, h2⟩ := h.at_
  obtain ⟨k1, k2, k3⟩ := r.keep p o (.inr ⟨rfl, rfl⟩)
  rw [ho] at h1
  refine ⟨⟨⟨xs, k1.trans h1, h2.mono s q⟩, k2, k3, h.np, h.ln⟩, r.less (fun a u z => Or.inl z) rfl rfl, fun i t hi ht z => ?_⟩
  obtain ⟨a, q1, _, _, q4, _⟩ := r.own i t hi ht
  rw [q1] at z; cases z
  exact q4 o (.inr ⟨rfl, rfl⟩)
/-- the walk of the kit's readings -/
def Wk (J : It) (g : TG) (tt : TT) (X : St → Hp → (Hp → Prop) → Prop) (vs : List Nat) (σ : L2.St) (Nx : Hp → Prop) (H0 : Hp) : Prop :=
  ∃ W1 : Nat → Nat → Hp → Prop, (∃ m, W1 0 m H0) ∧ ∀ j k H, W1 j k H → (J.stop j H ∧ Nx H) ∨ (J.go j H ∧ ∃ Nx1 : Hp → Prop, (∀ H', Nx1 H' → ∃ k', k' < k ∧ W1 (j + 1) k' H') ∧
    ∀ x H', J.yld j H x H' → g x (wipe σ vs) H' fun σ3 H5 => wipe σ3 vs = wipe σ vs ∧ tt σ3 H5 fun b H6 => if b = true then X σ3 H6 Nx1 else Nx1 H6)
theorem wk_it {J : It} {n : Nat} {Gs : Hp → Prop} {Y : Nat → Hp → V → Hp → Prop} (w : Walk J n Gs Y) {g : TG} {tt : TT} {X : St → Hp → (Hp → Prop) → Prop} {vs : List Nat} {σ : L2.St} {H0 : Hp} {Nx : Hp → Prop} (Pv : Nat → Hp → Prop) (h0 : Pv 0 H0) (hG : ∀ i H, i ≤ n → Pv i H → Gs H)
    (hs : ∀ i x H H', i < n → Pv i H → Y i H x H' → g x (wipe σ vs) H' fun σ2 H2 => wipe σ2 vs = wipe σ vs ∧ tt σ2 H2 fun b H3 => if b = true then X σ2 H3 (Pv (i + 1)) else Pv (i + 1) H3) (hd : ∀ H, Pv n H → Nx H) : Wk J g tt X vs σ Nx H0 := by
  refine ⟨fun i m H => m = n - i ∧ i ≤ n ∧ Pv i H, ⟨n, by simp, Nat.zero_le _, h0⟩, ?_⟩
  rintro i m H ⟨rfl, hi, p⟩
  have q := hG i H hi p
  by_cases hlt : i < n
  · exact .inr ⟨w.goes i H hlt q, Pv (i + 1), fun H' p' => ⟨n - (i + 1), by omega, rfl, hlt, p'⟩, fun x H' y => hs i x H H' hlt p (w.yields i H x H' hlt q y)⟩
  · have e : i = n := by omega
    subst e
    exact .inl ⟨w.stops H q, hd H p⟩
/-- nobody's slot holds p -/
def NoSlot (e : Env) (τ : L2.St) (p : Addr) : Prop := ∀ (i : Nat) (t : Slot), e[i]? = some (some t) → t.isVal = false → τ[i]? ≠ some (some (.ref p))
/-- as it stands between turns -/
def CI (G : Gb) (ent : Ent) (F1 : Hp) (rho1 : List Addr) (τ : L2.St) (p : Addr) (acc : List D) (e : Env) (S : Sto) (H : Hp) : Prop :=
  ∃ (F2 : Hp) (rho2 : List Addr), R G ent e S τ H F2 rho2 ∧ Sub F1 F2 ∧ Pre rho1 rho2 ∧ Held G ent rho2 F2 H p acc ∧ NoSlot e τ p
theorem NoSlot.wipe {e : Env} {τ : L2.St} {p : Addr} (h : NoSlot e τ p) (vs : List Nat) : NoSlot (wipeE e vs) (L2.wipe τ vs) p := fun j u hj hu z => by
  obtain ⟨q1, q2⟩ := wipeE_some hj
  refine h j u q1 hu ?_
  rw [wipe_ne q2] at z; exact z
/-- a turn's reading -/
def TurnOk (G : Gb) (vs : List Nat) (X : Addr → St → Hp → (Hp → Prop) → Prop) (B : Turn) : Prop := ∀ {ent : Ent} {e : Env} {S : Sto} {σ : L2.St} {H F : Hp} {rho : List Addr} {p : Addr} {acc : List D} {Nx : Hp → Prop}, R G ent e S σ H F rho → Held G ent rho F H p acc → NoSlot e σ p →
  (match B acc e S with
    | .ok acc' e' S' => ∀ (τ : L2.St) (H' : Hp), L2.wipe τ vs = L2.wipe σ vs → CI G ent F rho τ p acc' e' S' H' → Nx H'
    | _ => False) → X p σ H Nx
theorem comp_loop {vs : List Nat} {t : Tg} {tt : Tx} {B : Turn} {g : TG} {σ : L2.St} {H0 : Hp} {tq : TT} {X : Addr → St → Hp → (Hp → Prop) → Prop} {F1 : Hp} {rho1 : List Addr} {J : It} {ds acc : List D} {e : Env} {S : Sto} {p : Addr} {Nx : Hp → Prop} (hg : TgR G g t) (hsl : ∀ j ∈ t.slots, j ∈ vs)
    (htt : ∀ {σ H Q}, rdTx G tt σ H Q → tq σ H Q) (hX : TurnOk G vs X B) (wd : WalkD G rho1 F1 J ds) (ci : CI G ent F1 rho1 (wipe σ vs) p acc e S H0)
    (hd : match compL vs t tt B ds acc e S with
      | .ok acc' e' S' => ∀ H', CI G ent F1 rho1 (wipe σ vs) p acc' e' S' H' → Nx H'
      | _ => False) : Wk J g tq (X p) vs σ Nx H0 := by
  obtain ⟨hz, Gs, Y, w, hGs, hY⟩ := wd
  let Done : Out (List D) → Prop := fun o => match o with
    | .ok acc' e' S' => ∀ H', CI G ent F1 rho1 (wipe σ vs) p acc' e' S' H' → Nx H'
    | _ => False
  refine wk_it w (fun i H => ∃ (acc : List D) (e : Env) (S : Sto), CI G ent F1 rho1 (wipe σ vs) p acc e S H ∧ Done (compL vs t tt B (ds.drop i) acc e S)) ⟨acc, e, S, ci, hd⟩ (fun i H _ ⟨_, _, _, ⟨F2, _, r2, s2, _⟩, _⟩ => hGs H (s2.trans r2.sub)) (fun i x H H' hi hP hy => ?_) (fun H hP => ?_)
  · obtain ⟨acc, e2, S2, ⟨F2, rho2, r2, s2, p2, hh, hn⟩, hd⟩ := hP
    have hdr : ds.drop i = ds[i] :: ds.drop (i + 1) := List.drop_eq_getElem_cons hi
    rw [hdr] at hd
    obtain ⟨F3, g3, rep3⟩ := hY i H x H' ds[i] rho2 F2 (List.getElem?_eq_getElem hi) p2 s2 r2.sub hy
    obtain ⟨o, ho⟩ := hh.get
    have r2h := r2.held ho hh.fr hh.nr hn
    have r3 := r2h.grow g3
    have s3 := g3.sub r2.sub
    unfold compL at hd
    cases ha : t.asg ds[i] e2 with
    | none => rw [ha] at hd; exact hd.elim
    | some e3 =>
      rw [ha] at hd
      refine hg r3 rep3 ha fun σ3 r4 l4 k4 => ?_
      have hw : wipe σ3 vs = wipe σ vs := by
        have := wipe_same (σ' := σ3) (σ := wipe σ vs) (vs := vs) l4 fun j hj => k4 j fun z => hj (hsl j z)
        rw [this]
        exact wipe_same (wipe_length σ vs) fun j hj => wipe_ne hj
      refine ⟨hw, htt ⟨ent.hold p o, e3, S2, F3, rho2, r4, ?_⟩⟩
      have hd : Done (match tt e3 S2 with
        | .ok true e2 S2 => match B acc e2 S2 with
          | .ok acc3 e3 S3 => compL vs t tt B (ds.drop (i + 1)) acc3 (wipeE e3 vs) S3
          | _ => .stuck
        | .ok false e2 S2 => compL vs t tt B (ds.drop (i + 1)) acc (wipeE e2 vs) S2
        | _ => .stuck) := hd
      cases qt : tt e3 S2 with
      | ok b e4 S4 =>
        rw [qt] at hd
        intro H4 F4 rho4 r5 s5 p5
        obtain ⟨hh4, r5', hn4⟩ := hh.step ho r5 (s3.trans s5) p5
        cases b with
        | false =>
          rw [if_neg (by decide)]
          have rw4 := r5'.wipe vs
          have hn5 := NoSlot.wipe hn4 vs
          rw [hw] at rw4 hn5
          exact ⟨acc, wipeE e4 vs, S4, ⟨F4, rho4, rw4, (s2.trans s3).trans s5, p2.trans p5, hh4, hn5⟩, hd⟩
        | true =>
          rw [if_pos rfl]
          refine hX r5' hh4 hn4 ?_
          have hd : Done (match B acc e4 S4 with
            | .ok acc3 e3 S3 => compL vs t tt B (ds.drop (i + 1)) acc3 (wipeE e3 vs) S3
            | _ => .stuck) := hd
          cases qm : B acc e4 S4 with
          | ok acc5 e5 S5 =>
            rw [qm] at hd
            rintro τ H5 hτ ⟨F5, rho5, r6, s6, p6, hh5, hn5⟩
            have r7 := r6.wipe vs
            have hn7 := NoSlot.wipe hn5 vs
            rw [hτ, hw] at r7 hn7
            exact ⟨acc5, wipeE e5 vs, S5, ⟨F5, rho5, r7, ((s2.trans s3).trans s5).trans s6, (p2.trans p5).trans p6, hh5, hn7⟩, hd⟩
          | exc x e5 S5 => rw [qm] at hd; exact hd.elim
          | stuck => rw [qm] at hd; exact hd.elim
      | exc x e4 S4 => rw [qt] at hd; exact hd.elim
      | stuck => rw [qt] at hd; exact hd.elim
  · obtain ⟨acc, e2, S2, ci, hd⟩ := hP
    rw [List.drop_length] at hd
    exact hd H ci
/-- one element a turn -/
theorem turn1_ok {vs : List Nat} {m : Ex} : TurnOk G vs (fun p σ H Nx => rdEx G m σ H fun y H4 => ∃ acc, H4 p = some (.lst acc) ∧ acc.length < sizeLine ∧ Nx (upd H4 p (.lst (acc ++ [y])))) (turn1 m) := by
  intro ent e S σ H F rho p acc Nx r hh hn hd
  obtain ⟨o, ho⟩ := hh.get
  refine ⟨ent.hold p o, e, S, F, rho, r.held ho hh.fr hh.nr hn, ?_⟩
  unfold turn1 at hd
  cases qm : m e S with
  | ok y e5 S5 =>
    rw [qm] at hd
    intro v H5 F5 rho5 r6 s6 p6 rep6
    have hd : match (if acc.length < sizeLine then Out.ok (acc ++ [y]) e5 S5 else .stuck) with
      | .ok acc' e' S' => ∀ (τ : L2.St) (H' : Hp), L2.wipe τ vs = L2.wipe σ vs → CI G ent F rho τ p acc' e' S' H' → Nx H'
      | _ => False := hd
    split at hd
    · rename_i acc' e' S' hq
      split at hq
      · rename_i hlt
        cases hq
        obtain ⟨hh5, r6', hn5⟩ := hh.step ho r6 s6 p6
        obtain ⟨xs, hx, lx⟩ := hh5.at_
        refine ⟨xs, hx, by rw [lx.length]; exact hlt, ?_⟩
        exact hd σ _ rfl ⟨F5, rho5, r6'.poke (o := .lst (xs ++ [v])) hh5.fr hh5.nr hh5.np hn5, s6, p6, ⟨⟨_, upd_same, lx.append (.cons rep6 .nil)⟩, hh5.fr, hh5.nr, hh5.np, by rw [List.length_append]; simp; omega⟩, hn5⟩
      · cases hq
    · exact hd.elim
  | exc x e5 S5 => rw [qm] at hd; exact hd.elim
  | stuck => rw [qm] at hd; exact hd.elim
theorem wipe_wipe {σ : L2.St} {vs1 vs : List Nat} (h : ∀ j ∈ vs1, j ∈ vs) : wipe (wipe σ vs1) vs = wipe σ vs := wipe_same (wipe_length σ vs1) fun j hj => wipe_ne fun z => hj (h j z)
/-- a walk of its own each turn -/
theorem turn2_ok {vs vs1 : List Nat} {it : Itx} {t : Tg} {tt : Tx} {m : Ex} {g : TG} {tq : TT} (hg : TgR G g t) (hsl : ∀ j ∈ t.slots, j ∈ vs1) (hv : ∀ j ∈ vs1, j ∈ vs) (htt : ∀ {σ H Q}, rdTx G tt σ H Q → tq σ H Q) :
    TurnOk G vs (fun p σ H Nx => rdIx G it σ H fun J1 H4 => Wk J1 g tq (fun σ3 H6 Nx1 => rdEx G m σ3 H6 fun y H7 => ∃ acc, H7 p = some (.lst acc) ∧ acc.length < sizeLine ∧ Nx1 (upd H7 p (.lst (acc ++ [y])))) vs1 σ Nx H4) (turn2 it vs1 t tt m) := by
  intro ent e S σ H F rho p acc Nx r hh hn hd
  obtain ⟨o, ho⟩ := hh.get
  refine ⟨ent.hold p o, e, S, F, rho, r.held ho hh.fr hh.nr hn, ?_⟩
  unfold turn2 at hd
  cases qm : it e S with
  | ok ds e5 S5 =>
    rw [qm] at hd
    intro J H5 F5 rho5 r6 s6 p6 wd
    obtain ⟨hh5, r6', hn5⟩ := hh.step ho r6 s6 p6
    refine comp_loop hg hsl htt turn1_ok wd ⟨F5, rho5, r6'.wipe vs1, Sub.refl _, Pre.refl _, hh5, NoSlot.wipe hn5 vs1⟩ ?_
    have hd : match compL vs1 t tt (turn1 m) ds acc (wipeE e5 vs1) S5 with
      | .ok acc' e' S' => ∀ (τ : L2.St) (H' : Hp), L2.wipe τ vs = L2.wipe σ vs → CI G ent F rho τ p acc' e' S' H' → Nx H'
      | _ => False := hd
    cases q : compL vs1 t tt (turn1 m) ds acc (wipeE e5 vs1) S5 with
    | ok acc' e' S' =>
      rw [q] at hd
      rintro H' ⟨F6, rho6, r7, s7, p7, hh7, hn7⟩
      exact hd _ H' (wipe_wipe hv) ⟨F6, rho6, r7, s6.trans s7, p6.trans p7, hh7, hn7⟩
    | exc x e5 S5 => rw [q] at hd; exact hd.elim
    | stuck => rw [q] at hd; exact hd.elim
  | exc x e5 S5 => rw [qm] at hd; exact hd.elim
  | stuck => rw [qm] at hd; exact hd.elim
/-- the reading of a comprehension -/
theorem comp_core {W : WX} {it : Itx} {vs : List Nat} {t : Tg} {tt : Tx} {B : Turn} {g : TG} {σ : L2.St} {H : Hp} {Q : VK} {tq : TT} {X : Addr → St → Hp → (Hp → Prop) → Prop} (hg : TgR G g t) (hsl : ∀ j ∈ t.slots, j ∈ vs)
    (htt : ∀ {σ H Q}, rdTx G tt σ H Q → tq σ H Q) (hX : TurnOk G vs X B) (h : rdW G W ent (wCompB it vs t tt B) σ H Q) : rdI G W ent it σ H (fun J H1 => ∀ p, H1 p = none → Wk J g tq (X p) vs σ (Q (.ref p)) (upd H1 p (.lst []))) := by
  obtain ⟨e, S, F, rho, hR, hp⟩ := h
  refine ⟨e, S, F, rho, hR, ?_⟩
  unfold wCompB at hp
  cases q : it e S with
  | ok ds e1 S1 =>
    rw [q] at hp
    intro J H1 F1 rho1 r1 s1 p1 wd p hpn
    have hp : postW G W ent σ F rho Q (if plainS e1 vs = true then
        match compL vs t tt B ds [] (wipeE e1 vs) S1 with
        | .ok acc e2 S2 => .ok (.own acc) (backE e1 e2 vs) S2
        | _ => .stuck
      else .stuck) := hp
    split at hp
    · rename_i hpl
      have hfp : F1 p = none := by
        cases z : F1 p with
        | none => rfl
        | some o => rw [r1.sub p o z] at hpn; cases hpn
      have hrp : p ∉ rho1 := fun z => (r1.rhoSome z).1 hpn
      refine comp_loop hg hsl htt hX wd ⟨F1, rho1, (r1.wipe vs).lay hpn, Sub.refl _, Pre.refl _, ⟨⟨[], upd_same, .nil⟩, hfp, hrp, r1.fresh hpn, Nat.zero_le _⟩, fun i t hi ht z => ?_⟩ ?_
      · obtain ⟨a, q1, q2, _⟩ := (r1.wipe vs).own i t hi ht
        rw [q1] at z; cases z
        exact q2.isob hpn
      · revert hp
        cases qc : compL vs t tt B ds [] (wipeE e1 vs) S1 with
        | ok acc e2 S2 =>
          rintro hp H' ⟨F2, rho2, r2, s2, p2, hh, hn⟩
          have hd : postW G W ent σ F rho Q (.ok (.own acc) (backE e1 e2 vs) S2) := hp
          obtain ⟨xs, hx, lx⟩ := hh.at_
          have rb := R.back r1 hpl r2 s2 p2
          have hacc : acc.length ≤ sizeLine := hh.ln
          · refine hd _ H' F2 rho2 rb (s1.trans s2) (p1.trans p2) ⟨p, rfl, ⟨xs, hx, by rw [lx.length]; omega, lx⟩, hh.fr, hh.np, hh.nr, fun j u hj hu z => ?_⟩
            obtain ⟨a, q1, q2, _⟩ := rb.own j u hj hu
            rcases backE_some hj with ⟨h1, h2⟩ | ⟨h1, h2⟩
            · obtain ⟨b, z1, z2, _⟩ := r1.own j u h2 hu
              rw [z1] at z; cases z
              exact z2.isob hpn
            · exact hn j u h2 hu (by rw [wipe_ne h1]; exact z)
        | exc x e2 S2 => exact fun h => h
        | stuck => exact fun h => h
    · exact hp.elim
  | exc x e1 S1 => rw [q] at hp; exact hp
  | stuck => rw [q] at hp; exact hp.elim
end
end TM
namespace TM
open PySem PySem.Spec L2
open PyProof.Rows hiding St

/-! the context of a def's text -/
structure En where
  P : Program
  w : World
  K : PySem.W.Frag
  mg : Str → Option Value
  base : Heap
structure Bx (Z : En) (N : List Str) (sc : Scope) (fs : Str → Bool) (k : Nat) (X : Cx) (W : WX) : Prop extends Gd X k where
  n : X.N = N
  s : X.env.scope = sc
  f : X.fn = fs
  tk : Takes X W
  hP : X.prog = Z.P
  hw : X.w = Z.w
  hK : X.K = Z.K
  hm : X.mg = Z.mg
  hb : X.base = Z.base
structure Dx (Z : En) (N : List Str) (sc : Scope) (k : Nat) (X : Cx) (W : WX) : Prop extends Bx Z N sc (fun _ => true) k X W where
  po : PassesOwn (model X.prog X.w) X.A X.env X.xe
def isLoc : Option NameKind → Bool
  | some .local => true
  | some .cell => true
  | _ => false
def isVis : Option NameKind → Bool
  | some .local => true
  | some .cell => true
  | some .free => true
  | _ => false
def isL : Option NameKind → Bool
  | some .local => true
  | _ => false
def isGl : Option NameKind → Bool
  | some .globalImplicit => true
  | _ => false
def vOk (N : List Str) (sc : Scope) (i : Nat) (y : Str) : Bool := decide (N[i]? = some y) && (isVis (sc.names.lookup y) && (!(y == ("__debug__" : Str)) && !(y == ("__classdict__" : Str))))
def tOk (N : List Str) (sc : Scope) (fs : Str → Bool) (i : Nat) (y : Str) : Bool := decide (N[i]? = some y) && (isLoc (sc.names.lookup y) && (fs y || isL (sc.names.lookup y)))
def lOk (N : List Str) (sc : Scope) (i : Nat) (y : Str) : Bool := decide (N[i]? = some y) && isL (sc.names.lookup y)
def gOk (sc : Scope) (y : Str) : Bool := isGl (sc.names.lookup y) && (!(y == ("__debug__" : Str)) && !(y == ("__name__" : Str)))
theorem isLoc_of {o : Option NameKind} (h : isLoc o = true) : o = some .local ∨ o = some .cell := by
  unfold isLoc at h; split at h <;> simp_all
theorem isVis_of {o : Option NameKind} (h : isVis o = true) : o = some .local ∨ o = some .cell ∨ o = some .free := by
  unfold isVis at h; split at h <;> simp_all
theorem isL_of {o : Option NameKind} (h : isL o = true) : o = some .local := by
  unfold isL at h; split at h <;> simp_all
theorem isGl_of {o : Option NameKind} (h : isGl o = true) : o = some .globalImplicit := by
  unfold isGl at h; split at h <;> simp_all
section
variable {X : Cx} {W : WX} {ent : Ent} {Z : En} {N : List Str} {sc : Scope} {fs : Str → Bool} {k : Nat} {pos : Pos}
theorem Gl.of (c : Bx Z N sc fs k X W) {y : Str} (h : gOk sc y = true) : Gl X y := by
  unfold gOk at h; simp only [Bool.and_eq_true] at h
  have := isGl_of h.1
  rw [← c.s] at this; exact this
theorem gOk_debug {y : Str} (h : gOk sc y = true) : (y == ("__debug__" : Str)) = false := by
  unfold gOk at h; simp only [Bool.and_eq_true] at h
  simpa using h.2.1
theorem gOk_name {y : Str} (h : gOk sc y = true) : y ≠ ("__name__" : Str) := by
  unfold gOk at h; simp only [Bool.and_eq_true] at h
  simpa using h.2.2
theorem rv (c : Bx Z N sc fs k X W) (i : Nat) {y : Str} (h : vOk N sc i y = true) : PE X (.Name y pos) (tVar i) := by
  unfold vOk at h; simp only [Bool.and_eq_true, decide_eq_true_eq] at h
  refine pe_var (by rw [c.n]; exact h.1) (by unfold L2.Vis; rw [c.s]; exact isVis_of h.2.1) (by simpa using h.2.2.1) (by simpa using h.2.2.2)
/-- a name's value -/
theorem xv (c : Bx Z N sc fs k X W) (i : Nat) {y : Str} (h : vOk N sc i y = true) : PE X (.Name y pos) (rdE X.gb W ent (bVar i)) := sem_var (rv c i h)
/-- a name as an operand -/
theorem ov (c : Bx Z N sc fs k X W) (i : Nat) {y : Str} (h : vOk N sc i y = true) : OpE X W ent (.Name y pos) (.sl i) := rv c i h
theorem xi {i j} : PE X (.Constant (.int i) j pos) (rdE X.gb W ent (bC (.int i))) := sem_const pe_int fun _ _ => .int i
theorem xs {i j} : PE X (.Constant (.str i) j pos) (rdE X.gb W ent (bC (.str i))) := sem_const pe_str fun _ _ => .str i
theorem xb {i j} : PE X (.Constant (.bool i) j pos) (rdE X.gb W ent (bC (.bl i))) := sem_const pe_bl fun _ _ => .bl i
theorem xn {j} : PE X (.Constant .none j pos) (rdE X.gb W ent (bC .non)) := sem_const pe_non fun _ _ => .non
theorem gn (c : Bx Z N sc fs k X W) (i : Nat) {y : Str} (h : tOk N sc fs i y = true) : PG X (.Name y pos) (gName i) := by
  unfold tOk at h; simp only [Bool.and_eq_true, decide_eq_true_eq] at h
  refine pg_name c.nd (by rw [c.n]; exact h.1) (by unfold L2.Loc; rw [c.s]; exact isLoc_of h.2.1) ?_
  have := h.2.2
  rw [Bool.or_eq_true] at this
  rcases this with q | q
  · exact .inl (by rw [c.f]; exact q)
  · exact .inr (by rw [c.s]; exact isL_of q)
/-- operands' syntax, the plain ones -/
theorem opc {x : Expr} {o : Opr} {es : List Expr} {os : List Opr} (h : OpE X W ent x o) (t : OpsE X W ent es os) (hp : plainA x = true := by rfl) : OpsE X W ent (x :: es) (o :: os) := .cons h (fun es' => star_plain hp es' _) t
theorem opn : OpsE X W ent [] [] := .nil

/-! comprehensions -/
abbrev bsc (scope sc : Scope) : Scope := relS scope sc
theorem Bx.blk (c : Bx Z N sc fs k X W) (s : Shared) (H : Hp) (scope : Scope) (C : Addr) (cl : List (Str × Addr)) (fp : List Addr) : Bx Z N (relS scope sc) (fun x => scope.names.lookup x == some .cell) k (X.blk s H scope (compEnvC scope cl C X.env) fp) W0 where
  nd := c.nd
  calm := c.calm
  room := c.room
  gua := c.gua
  n := c.n
  s := by rw [← c.s]; rfl
  f := rfl
  tk := takes0
  hP := c.hP
  hw := c.hw
  hK := c.hK
  hm := c.hm
  hb := c.hb
theorem exX {G : Gb} {Y : Cx} {x : Expr} {m : Ex} (h : ∀ ent, PE Y x (rdE G W0 ent m)) : PE Y x (rdEx G m) := ⟨fun pins s σ H Q I ⟨ent, hq⟩ => (h ent).run pins s σ H Q I hq⟩
theorem exT {G : Gb} {Y : Cx} {x : Expr} {m : Tx} (h : ∀ ent, PT Y x (rdT G W0 ent m)) : PT Y x (rdTx G m) := ⟨fun pins s σ H Q I ⟨ent, hq⟩ => (h ent).run pins s σ H Q I hq⟩
theorem exI {G : Gb} {Y : Cx} {g x : Expr} {m : Itx} (h : ∀ ent, PI Y g x (rdI G W0 ent m)) : PI Y g x (rdIx G m) := ⟨fun pins s σ H Q I ⟨ent, hq⟩ => (h ent).run pins s σ H Q I hq⟩
def bTT : Tx := fun e S => .ok true e S
/-- a clause's tests: none, one -/
inductive Ifs (G : Gb) (Y : Cx) : List Expr → Tx → TT → Prop
  | nil : Ifs G Y [] bTT tYes
  | one {x : Expr} {t : Tx} : (∀ ent, PT Y x (rdT G W0 ent t)) → Ifs G Y [x] t (rdTx G t)
theorem Ifs.pts {G : Gb} {Y : Cx} {l : List Expr} {t : Tx} {q : TT} : Ifs G Y l t q → PTs Y l q
  | .nil => pts_nil
  | .one h => pts_one (exT h)
theorem Ifs.rd {G : Gb} {Y : Cx} {l : List Expr} {t : Tx} {q : TT} (h : Ifs G Y l t q) : ∀ {σ H Q}, rdTx G t σ H Q → q σ H Q := by
  intro σ H Q
  cases h with
  | nil => rintro ⟨ent, e, S, F, rho, r, p⟩; exact p H F rho r (Sub.refl _) (Pre.refl _)
  | one _ => exact fun p => p
def inAll (ks vs : List Nat) : Bool := ks.all fun j => vs.contains j
theorem inAll_of {ks vs : List Nat} (h : inAll ks vs = true) : ∀ j ∈ ks, j ∈ vs := by
  unfold inAll at h
  simpa using h
theorem wkTurn1 {G : Gb} {t : Tg} {tt : Tx} {m : Ex} {it : Itx} {vs : List Nat} {g : TG} {tq : TT} {σ : L2.St} {H : Hp} {Q : VK} (hg : TgR G g t) (hsl : inAll t.slots vs = true) (htt : ∀ {σ H Q}, rdTx G tt σ H Q → tq σ H Q)
    (h : rdW G W ent (wComp it vs t tt m) σ H Q) : tLc (rdI G W ent it) g tq (rdEx G m) vs σ H Q := comp_core hg (inAll_of hsl) htt turn1_ok h
theorem wkTurn2 {G : Gb} {t t1 : Tg} {tt tt1 : Tx} {m : Ex} {it it1 : Itx} {vs vs1 : List Nat} {g g1 : TG} {tq tq1 : TT} {σ : L2.St} {H : Hp} {Q : VK} (hg : TgR G g t) (hsl : inAll t.slots vs = true) (htt : ∀ {σ H Q}, rdTx G tt σ H Q → tq σ H Q)
    (hg1 : TgR G g1 t1) (hsl1 : inAll t1.slots vs1 = true) (hv : inAll vs1 vs = true) (htt1 : ∀ {σ H Q}, rdTx G tt1 σ H Q → tq1 σ H Q)
    (h : rdW G W ent (wComp2 it vs t tt it1 vs1 t1 tt1 m) σ H Q) : tLc2 (rdI G W ent it) g tq (rdIx G it1) g1 tq1 (rdEx G m) vs vs1 σ H Q := comp_core hg (inAll_of hsl) htt (turn2_ok hg1 (inAll_of hsl1) (inAll_of hv) htt1) h

variable {elt tg iter tg1 iter1 : Expr} {ifs ifs1 : List Expr} {scope : Scope} {own : List (Str × Nat)} {it it1 : Itx} {t t1 : Tg} {tt tt1 : Tx} {m : Ex} {g g1 : TG} {tq tq1 : TT} {vs1 : List Nat}
/-- [elt for tg in iter if ..] -/
theorem semW_lc (c : Bx Z N sc fs k X W) (own : List (Str × Nat)) (hok : blkC N sc scope own = true) (hi : PI X tg iter (rdI X.gb W ent it)) (hgr : TgR X.gb g t) (hsl : inAll t.slots (own.map (·.2)) = true)
    (hg : ∀ s H C cl fp, Bx Z N (relS scope sc) (fun x => scope.names.lookup x == some .cell) k (X.blk s H scope (compEnvC scope cl C X.env) fp) W0 → PG (X.blk s H scope (compEnvC scope cl C X.env) fp) tg g ∧ Ifs X.gb (X.blk s H scope (compEnvC scope cl C X.env) fp) ifs tt tq ∧ ∀ ent, PE (X.blk s H scope (compEnvC scope cl C X.env) fp) elt (rdE X.gb W0 ent m))
    (hs : ∀ x, foldedSetIterable iter X.env x = pure x := by intro _; rfl) :
    PE X (.ListComp elt [⟨tg, iter, ifs, 0⟩] scope pos) (rdW X.gb W ent (wComp it (own.map (·.2)) t tt m)) := by
  have hh : ∀ (s : Shared) (H : Hp) (C : Addr) (cl : List (Str × Addr)) (fp : List Addr), PG (X.blk s H scope (compEnvC scope cl C X.env) fp) tg g ∧ Ifs X.gb (X.blk s H scope (compEnvC scope cl C X.env) fp) ifs tt tq ∧ ∀ ent, PE (X.blk s H scope (compEnvC scope cl C X.env) fp) elt (rdE (X.blk s H scope (compEnvC scope cl C X.env) fp).gb W0 ent m) := fun s H C cl fp => hg s H C cl fp (c.blk s H scope C cl fp)
  have htt : ∀ {σ H Q}, rdTx X.gb tt σ H Q → tq σ H Q := fun {σ H Q} q => (hh X.s_0 H 0 [] []).2.1.rd q
  refine (pe_lc (te := rdEx X.gb m) c.calm c.nd hi (blkOk_by (by rw [c.n, c.s]; exact hok)) (fun s H C cl fp => (hh s H C cl fp).1) (fun s H C cl fp => (hh s H C cl fp).2.1.pts) (fun s H C cl fp => exX (hh s H C cl fp).2.2) hs).weak fun σ H Q h => wkTurn1 hgr hsl htt h
/-- y = [elt for tg in iter if ..] -/
theorem semS_setLc {i : Nat} {y : Str} {py spos : Pos} (c : Bx Z N sc fs k X W) (hy : lOk N sc i y = true) (hsw : swapsWith (.ListComp elt [⟨tg, iter, ifs, 0⟩] scope pos) (some (.Name y py)) spos.line X.env = pure true)
    (own : List (Str × Nat)) (hok : blkC N sc scope own = true) (hi : PI X tg iter (rdI X.gb W ent it)) (hgr : TgR X.gb g t) (hsl : inAll t.slots (own.map (·.2)) = true)
    (hg : ∀ s H C cl fp, Bx Z N (relS scope sc) (fun x => scope.names.lookup x == some .cell) k (X.blk s H scope (compEnvC scope cl C X.env) fp) W0 → PG (X.blk s H scope (compEnvC scope cl C X.env) fp) tg g ∧ Ifs X.gb (X.blk s H scope (compEnvC scope cl C X.env) fp) ifs tt tq ∧ ∀ ent, PE (X.blk s H scope (compEnvC scope cl C X.env) fp) elt (rdE X.gb W0 ent m))
    (hs : ∀ x, foldedSetIterable iter X.env x = pure x := by intro _; rfl) :
    PS X (.Assign [.Name y py] (.ListComp elt [⟨tg, iter, ifs, 0⟩] scope pos) spos) (rdS X.gb W ent (sSet i (wComp it (own.map (·.2)) t tt m))) := by
  unfold lOk at hy; simp only [Bool.and_eq_true, decide_eq_true_eq] at hy
  have hyl : X.env.scope.names.lookup y = some .local := by rw [c.s]; exact isL_of hy.2
  have hh : ∀ (s : Shared) (H : Hp) (C : Addr) (cl : List (Str × Addr)) (fp : List Addr), PG (X.blk s H scope (compEnvC scope cl C X.env) fp) tg g ∧ Ifs X.gb (X.blk s H scope (compEnvC scope cl C X.env) fp) ifs tt tq ∧ ∀ ent, PE (X.blk s H scope (compEnvC scope cl C X.env) fp) elt (rdE (X.blk s H scope (compEnvC scope cl C X.env) fp).gb W0 ent m) := fun s H C cl fp => hg s H C cl fp (c.blk s H scope C cl fp)
  have htt : ∀ {σ H Q}, rdTx X.gb tt σ H Q → tq σ H Q := fun {σ H Q} q => (hh X.s_0 H 0 [] []).2.1.rd q
  refine (ps_setLc (i := i) (te := rdEx X.gb m) c.calm c.nd (by rw [c.n]; exact hy.1) hyl hsw hi (blkOk_by (by rw [c.n, c.s]; exact hok)) (fun s H C cl fp => (hh s H C cl fp).1) (fun s H C cl fp => (hh s H C cl fp).2.1.pts) (fun s H C cl fp => exX (hh s H C cl fp).2.2) hs).weak fun D σ H ⟨e, S, F, rho, hR, hp⟩ => ?_
  refine wkTurn1 (W := W) (ent := ent) (Q := fun v H' => gName i v σ H' D.nx) hgr hsl htt ⟨e, S, F, rho, hR, ?_⟩
  unfold sSet at hp
  cases q : wComp it (own.map (·.2)) t tt m e S with
  | ok s e1 S1 => rw [q] at hp; exact fun v H' F' rho' r sb p k => hp _ H' F' rho' (r.setW k i) sb p
  | exc x e1 S1 => rw [q] at hp; exact hp σ
  | stuck => rw [q] at hp; exact hp
/-- [elt for tg in iter if .. for tg1 in iter1 if ..] -/
theorem semW_lc2 (c : Bx Z N sc fs k X W) (own : List (Str × Nat)) (vs1 : List Nat) (hok : blkC N sc scope own = true) (hi : PI X tg iter (rdI X.gb W ent it)) (hgr : TgR X.gb g t) (hsl : inAll t.slots (own.map (·.2)) = true)
    (hgr1 : TgR X.gb g1 t1) (hsl1 : inAll t1.slots vs1 = true) (hv : inAll vs1 (own.map (·.2)) = true)
    (hg : ∀ s H C cl fp, Bx Z N (relS scope sc) (fun x => scope.names.lookup x == some .cell) k (X.blk s H scope (compEnvC scope cl C X.env) fp) W0 →
      (PG (X.blk s H scope (compEnvC scope cl C X.env) fp) tg g ∧ Ifs X.gb (X.blk s H scope (compEnvC scope cl C X.env) fp) ifs tt tq ∧ ∀ ent, PE (X.blk s H scope (compEnvC scope cl C X.env) fp) elt (rdE X.gb W0 ent m)) ∧
        PG (X.blk s H scope (compEnvC scope cl C X.env) fp) tg1 g1 ∧ Ifs X.gb (X.blk s H scope (compEnvC scope cl C X.env) fp) ifs1 tt1 tq1 ∧ ∀ ent, PI (X.blk s H scope (compEnvC scope cl C X.env) fp) tg1 iter1 (rdI X.gb W0 ent it1))
    (hs : ∀ x, foldedSetIterable iter X.env x = pure x := by intro _; rfl) (hs1 : ∀ env x, foldedSetIterable iter1 env x = pure x := by intro _ _; rfl) :
    PE X (.ListComp elt [⟨tg, iter, ifs, 0⟩, ⟨tg1, iter1, ifs1, 0⟩] scope pos) (rdW X.gb W ent (wComp2 it (own.map (·.2)) t tt it1 vs1 t1 tt1 m)) := by
  have hh := fun (s : Shared) (H : Hp) (C : Addr) (cl : List (Str × Addr)) (fp : List Addr) => hg s H C cl fp (c.blk s H scope C cl fp)
  have htt : ∀ {σ H Q}, rdTx X.gb tt σ H Q → tq σ H Q := fun {σ H Q} q => (hh X.s_0 H 0 [] []).1.2.1.rd q
  have htt1 : ∀ {σ H Q}, rdTx X.gb tt1 σ H Q → tq1 σ H Q := fun {σ H Q} q => (hh X.s_0 H 0 [] []).2.2.1.rd q
  exact (pe_lc2 (te := rdEx X.gb m) (wi1 := rdIx X.gb it1) c.calm c.nd hi (blkOk_by (by rw [c.n, c.s]; exact hok)) (inAll_of hv) (fun s H C cl fp => (hh s H C cl fp).1.1) (fun s H C cl fp => (hh s H C cl fp).1.2.1.pts) (fun s H C cl fp => exI (hh s H C cl fp).2.2.2)
    (fun s H C cl fp => (hh s H C cl fp).2.1) (fun s H C cl fp => (hh s H C cl fp).2.2.1.pts) (fun s H C cl fp => exX (hh s H C cl fp).1.2.2) hs hs1).weak fun σ H Q h => wkTurn2 hgr hsl htt hgr1 hsl1 hv htt1 h
end
end TM
namespace TM
open PySem PySem.Spec L2
open PyProof.Rows hiding St

/-! calls of builtins -/
theorem callr_or {X : Cx} {f : Value} {r r' : List V → Hp → VK → Prop} (h : CallR X f r) (h' : CallR X f r') : CallR X f (fun xs H Q => r xs H Q ∨ r' xs H Q) := by
  intro pins s σ H xs us Q I rx q
  rcases q with q | q
  · exact h pins s σ H xs us Q I rx q
  · exact h' pins s σ H xs us Q I rx q
section
variable {X : Cx} {W : WX} {ent : Ent} {Z : En} {N : List Str} {sc : Scope} {fs : Str → Bool} {k : Nat} {pos p : Pos}
/-- a call of a builtin by operands -/
theorem sem_bi {x : Str} {e : Expr} {es : List Expr} {os : List Opr} {id : String} {r : List V → Hp → VK → Prop} {f : PF} (c : Bx Z N sc fs k X W) (hc : CallR X (.builtin id) r) (hf : PrimOk X.gb r f) (hg : gOk sc x = true) (hm : Z.mg x = none) (hv : bootBuiltins x = some (.builtin id))
    (ha : OpsE X W ent (e :: es) os) (hpl : (e :: es).all plainA = true := by rfl) : PE X (.Call (.Name x p) (e :: es) [] pos) (rdE X.gb W ent (bPrim f os)) := by
  rw [List.all_cons, Bool.and_eq_true] at hpl
  exact sem_callB hc hf (Gl.of c hg) (by rw [c.hm]; exact hm) hv (pa_ops ha) (gOk_name hg) (gOk_debug hg) (star_plain hpl.1 _ _) (back_plain hpl.2)
theorem sem_bt {x : Str} {e : Expr} {es : List Expr} {os : List Opr} {T : String} {r : List V → Hp → VK → Prop} {f : PF} (c : Bx Z N sc fs k X W) (hc : CallR X (.type T) r) (hf : PrimOk X.gb r f) (hg : gOk sc x = true) (hm : Z.mg x = none) (hv : bootBuiltins x = some (.type T))
    (ha : OpsE X W ent (e :: es) os) (hpl : (e :: es).all plainA = true := by rfl) : PE X (.Call (.Name x p) (e :: es) [] pos) (rdE X.gb W ent (bPrim f os)) := by
  rw [List.all_cons, Bool.and_eq_true] at hpl
  exact sem_callTy hc hf (Gl.of c hg) (by rw [c.hm]; exact hm) hv (pa_ops ha) (gOk_name hg) (gOk_debug hg) (star_plain hpl.1 _ _) (back_plain hpl.2)
theorem semW_bt {x : Str} {e : Expr} {es : List Expr} {os : List Opr} {T : String} {r : List V → Hp → VK → Prop} {f : PF} (c : Bx Z N sc fs k X W) (hc : CallR X (.type T) r) (hf : PrimFr X.gb r f) (hg : gOk sc x = true) (hm : Z.mg x = none) (hv : bootBuiltins x = some (.type T))
    (ha : OpsE X W ent (e :: es) os) (hpl : (e :: es).all plainA = true := by rfl) : PE X (.Call (.Name x p) (e :: es) [] pos) (rdW X.gb W ent (wPrim f os)) := by
  rw [List.all_cons, Bool.and_eq_true] at hpl
  exact semW_callTy hc hf (Gl.of c hg) (by rw [c.hm]; exact hm) hv (pa_ops ha) (gOk_name hg) (gOk_debug hg) (star_plain hpl.1 _ _) (back_plain hpl.2)
/-- a built-in type as a value -/
theorem xty {x : Str} {T : String} (c : Bx Z N sc fs k X W) (hg : gOk sc x = true) (hm : Z.mg x = none) (hv : bootBuiltins x = some (.type T)) : PE X (.Name x pos) (rdE X.gb W ent (bC (.ty T))) :=
  sem_const (pe_bltn (v := .ty T) (Gl.of c hg) (by rw [c.hm]; exact hm) hv rfl (gOk_name hg) (gOk_debug hg)) fun _ _ => .ty T
end

/-! len -/
def fLen : PF
  | [.str x] => if x.length ≤ sizeLine then some (.int x.length) else none
  | [.lst ds] => some (.int ds.length)
  | [.tup ds] => some (.int ds.length)
  | [.dct ks _] => some (.int ks.length)
  | _ => none
def rLenA (K : PySem.W.Frag) : List V → Hp → VK → Prop := fun xs H Q => (∃ x n, xs = [x] ∧ LenV K x H n ∧ Q (.int n) H) ∨ ∃ a kvs, xs = [V.ref a] ∧ H a = some (.dK kvs) ∧ Q (.int kvs.length) H
theorem c_len {X : Cx} : CallR X (.builtin "len") (rLenA X.K) := callr_or call_len call_lenD
theorem ok_len {G : Gb} : PrimOk G (rLenA G.K) fLen := by
  intro rho F H vs ds d Q s hr hf q
  unfold fLen at hf
  split at hf
  · split at hf
    · rename_i hz
      cases hf
      obtain ⟨v, rfl, h1⟩ := repBL1 hr
      cases repB_str h1
      exact .inl ⟨_, _, rfl, ⟨hz, rfl⟩, q _ H F (Grow.refl s) (.int _)⟩
    · cases hf
  · cases hf
    obtain ⟨v, rfl, h1⟩ := repBL1 hr
    obtain ⟨a, xs, rfl, t, z, l⟩ := repB_lst s h1
    exact .inl ⟨_, _, rfl, .inl ⟨xs, t, rfl⟩, by rw [l.length]; exact q _ H F (Grow.refl s) (.int _)⟩
  · cases hf
    obtain ⟨v, rfl, h1⟩ := repBL1 hr
    obtain ⟨a, xs, rfl, t, z, l⟩ := repB_tup s h1
    exact .inl ⟨_, _, rfl, .inr ⟨xs, t, rfl⟩, by rw [l.length]; exact q _ H F (Grow.refl s) (.int _)⟩
  · cases hf
    obtain ⟨v, rfl, h1⟩ := repBL1 hr
    obtain ⟨a, xs, rfl, t, e, l⟩ := repB_dct s h1
    refine .inr ⟨_, _, rfl, t, q _ H F (Grow.refl s) ?_⟩
    rw [← e, List.length_map]
    exact .int _
  · cases hf

/-! max, min of two ints -/
def fMax : PF
  | [.int i, .int j] => some (.int (if j > i then j else i))
  | _ => none
def fMin : PF
  | [.int i, .int j] => some (.int (if j < i then j else i))
  | _ => none
theorem ok_max {G : Gb} : PrimOk G (fun xs H Q => ∃ i j, xs = [.int i, .int j] ∧ Q (.int (if j > i then j else i)) H) fMax := by
  intro rho F H vs ds d Q s hr hf q
  unfold fMax at hf
  split at hf
  · cases hf
    obtain ⟨v, w, rfl, h1, h2⟩ := repBL2 hr
    cases repB_int h1; cases repB_int h2
    exact ⟨_, _, rfl, q _ H F (Grow.refl s) (.int _)⟩
  · cases hf
theorem ok_min {G : Gb} : PrimOk G (fun xs H Q => ∃ i j, xs = [.int i, .int j] ∧ Q (.int (if j < i then j else i)) H) fMin := by
  intro rho F H vs ds d Q s hr hf q
  unfold fMin at hf
  split at hf
  · cases hf
    obtain ⟨v, w, rfl, h1, h2⟩ := repBL2 hr
    cases repB_int h1; cases repB_int h2
    exact ⟨_, _, rfl, q _ H F (Grow.refl s) (.int _)⟩
  · cases hf

/-! tuple(..), list(..) -/
def fTuple : PF
  | [.lst ds] => some (.tup ds)
  | [.tup ds] => some (.tup ds)
  | _ => none
theorem ok_tuple {G : Gb} : PrimOk G (fun xs H Q => ∃ p ys, xs = [.ref p] ∧ ((SqL G.K H p ys ∧ ∀ l, H l = none → Q (.ref l) (upd H l (.tup ys))) ∨ (SqT G.K H p ys ∧ Q (.ref p) H))) fTuple := by
  intro rho F H vs ds d Q s hr hf q
  unfold fTuple at hf
  split at hf
  · cases hf
    obtain ⟨v, rfl, h1⟩ := repBL1 hr
    obtain ⟨a, xs, rfl, t, z, l⟩ := repB_lst s h1
    refine ⟨a, xs, rfl, .inl ⟨t, fun p hp => ?_⟩⟩
    have g := Grow.alloc (o := .tup xs) s hp
    exact q _ _ _ g (.tup (.of upd_same) (fun _ => upd_same) z (l.mono (g.sub s) (Pre.refl _)))
  · cases hf
    obtain ⟨v, rfl, h1⟩ := repBL1 hr
    rcases h1 with h1 | ⟨a, t, rfl, ho, et⟩
    · cases h1 with
      | @tup a xs _ t1 t3 z t2 => exact ⟨a, xs, rfl, .inr ⟨sqT_mono s t1, q _ H F (Grow.refl s) (.tup t1 t3 z t2)⟩⟩
    · cases t <;> first | exact ho.elim | cases et
  · cases hf
def fList : PF
  | [.lst ds] => some (.lst ds)
  | [.tup ds] => some (.lst ds)
  | _ => none
theorem fr_list {G : Gb} : PrimFr G (fun xs H Q => ∃ p ys, xs = [.ref p] ∧ (SqL G.K H p ys ∨ SqT G.K H p ys) ∧ ∀ l, H l = none → Q (.ref l) (upd H l (.lst ys))) fList := by
  intro rho F H vs ds d Q s hr hf q
  unfold fList at hf
  split at hf
  · cases hf
    obtain ⟨v, rfl, h1⟩ := repBL1 hr
    obtain ⟨a, xs, rfl, t, z, l⟩ := repB_lst s h1
    exact ⟨a, xs, rfl, .inl t, fun p hp => q p xs H F (Grow.refl s) hp z l⟩
  · cases hf
    obtain ⟨v, rfl, h1⟩ := repBL1 hr
    obtain ⟨a, xs, rfl, t, z, l⟩ := repB_tup s h1
    exact ⟨a, xs, rfl, .inr t, fun p hp => q p xs H F (Grow.refl s) hp z l⟩
  · cases hf

/-! isinstance -/
theorem ty_sqL {K : PySem.W.Frag} {H : Hp} {a : Addr} {xs : List V} (h : SqL K H a xs) : TyX K H (.ref a) (.type "list") := by
  rcases h with (h | ⟨o, h⟩) | ⟨o, its, n, h1, h2, _⟩
  · exact .base (.lst h)
  · exact .base (.frz h)
  · exact .kList h1 h2
theorem ty_sqT {K : PySem.W.Frag} {H : Hp} {a : Addr} {xs : List V} (h : SqT K H a xs) : TyX K H (.ref a) (.type "tuple") := by
  rcases h with (h | ⟨o, h⟩) | ⟨o, its, n, h1, h2, _⟩
  · exact .base (.tup h)
  · exact .fTuple h
  · exact .kTuple h1 h2
def D.ty? : D → Option String
  | .non => some "NoneType" | .bl _ => some "bool" | .int _ => some "int" | .str _ => some "str"
  | .tup _ => some "tuple" | .lst _ => some "list" | .dct _ _ => some "dict" | .dctt _ _ => some "dict"
  | _ => none
def fIsi : PF
  | [d, .ty c] => match d.ty? with
    | some t => (kitB t c).map .bl
    | none => none
  | _ => none
theorem ok_isi {G : Gb} : PrimOk G (rIsi G.K) fIsi := by
  intro rho F H vs ds d Q s hr hf q
  unfold fIsi at hf
  split at hf
  · rename_i d0 c
    obtain ⟨v, w, rfl, h1, h2⟩ := repBL2 hr
    cases repB_ty h2
    split at hf
    · rename_i t ht
      cases hk : kitB t c with
      | none => rw [hk] at hf; cases hf
      | some b =>
        rw [hk] at hf
        cases hf
        refine ⟨v, .ty c, .type t, .type c, b, rfl, .ty c, ?_, kit_ty hk, q _ H F (Grow.refl s) (.bl b)⟩
        unfold D.ty? at ht
        split at ht <;> cases ht
        · cases repB_non h1; exact .base .non
        · cases repB_bl h1; exact .base (.bl _)
        · cases repB_int h1; exact .base (.int _)
        · cases repB_str h1; exact .base (.str _)
        · obtain ⟨a, xs, rfl, t, _, _⟩ := repB_tup s h1; exact ty_sqT t
        · obtain ⟨a, xs, rfl, t, _, _⟩ := repB_lst s h1; exact ty_sqL t
        · obtain ⟨a, xs, rfl, t, _, _⟩ := repB_dct s h1; exact .base (.dK t)
        · obtain ⟨a, xs, rfl, t, _, _⟩ := repB_dctt s h1; exact .base (.dT t)
    · cases hf
  · cases hf

/-! all, any of a list of truths -/
def blsD : List D → Option (List Bool)
  | [] => some []
  | .bl b :: ds => (blsD ds).map fun bs => b :: bs
  | _ :: _ => none
theorem blsD_rep {G : Gb} {rho : List Addr} {F : Hp} : ∀ {vs : List V} {ds : List D} {bs : List Bool}, RepL G rho F vs ds → blsD ds = some bs → vs = bs.map V.bl
  | _, _, _, .nil, h => by cases h; rfl
  | _, _, _, .cons (d := d) r l, h => by
    cases r with
    | bl b =>
      unfold blsD at h
      cases e : blsD _ with
      | none => rw [e] at h; cases h
      | some bs => rw [e] at h; cases h; rw [blsD_rep l e]; rfl
    | _ => unfold blsD at h; cases h
def fAll : PF
  | [.lst ds] => (blsD ds).map fun bs => .bl (bs.all id)
  | _ => none
def fAny : PF
  | [.lst ds] => (blsD ds).map fun bs => .bl (bs.any id)
  | _ => none
theorem ok_all {G : Gb} : PrimOk G (rAll G.K) fAll := by
  intro rho F H vs ds d Q s hr hf q
  unfold fAll at hf
  split at hf
  · obtain ⟨v, rfl, h1⟩ := repBL1 hr
    obtain ⟨a, xs, rfl, t, z, l⟩ := repB_lst s h1
    cases e : blsD _ with
    | none => rw [e] at hf; cases hf
    | some bs =>
      rw [e] at hf; cases hf
      have := blsD_rep l e
      subst this
      exact ⟨a, bs, rfl, t, q _ H F (Grow.refl s) (.bl _)⟩
  · cases hf
theorem ok_any {G : Gb} : PrimOk G (rAny G.K) fAny := by
  intro rho F H vs ds d Q s hr hf q
  unfold fAny at hf
  split at hf
  · obtain ⟨v, rfl, h1⟩ := repBL1 hr
    obtain ⟨a, xs, rfl, t, z, l⟩ := repB_lst s h1
    cases e : blsD _ with
    | none => rw [e] at hf; cases hf
    | some bs =>
      rw [e] at hf; cases hf
      have := blsD_rep l e
      subst this
      exact ⟨a, bs, rfl, t, q _ H F (Grow.refl s) (.bl _)⟩
  · cases hf

/-! repr of data -/
def rRepr (X : Cx) : List V → Hp → VK → Prop := fun xs H Q => ∃ (a : Addr) (d : PyData), xs = [.ref a] ∧ Dp X.K H (.ref a) d ∧ d.showable = true ∧ d.hasDict = false ∧ X.A.units + (d.depth + 1) < cLine ∧ d.shown.length ≤ sizeLine ∧ Q (.str d.shown) H
theorem c_repr {X : Cx} (hg : X.A.guards = some []) : CallR X (.builtin "repr") (rRepr X) := by
  intro pins s σ H xs us Q I r h
  obtain ⟨a, d, rfl, hd, hs, hn, hu, hz, q⟩ := h
  cases r with
  | cons r1 t =>
    cases t
    obtain ⟨as, hr⟩ := hd.reads I d _ _ r1
    cases (show _ = Value.ref a from r1)
    exact repr_of_reads' hr hs (PyData.noDict_hsm hn) hg hu (fun _ _ e => e) (fun h' u tk hk => ⟨.str d.shown, H, I.turnedL (ch := []) (fun b o _ e => hk b o e) (fun b hb => nomatch hb), ⟨u, rfl⟩, q⟩) hz
def D.isSeq : D → Bool
  | .lst _ => true
  | .tup _ => true
  | _ => false
def D.shows (d : D) : Bool := d.isSeq && (d.dat && (decide (d.dep ≤ 64) && (d.py.showable && decide (d.py.shown.length ≤ sizeLine))))
def fRepr : PF
  | [d] => if d.shows = true then some (.str d.py.shown) else none
  | _ => none
theorem ok_repr {X : Cx} (hu : X.A.units + 66 < cLine) : PrimOk X.gb (rRepr X) fRepr := by
  intro rho F H vs ds d Q s hr hf q
  unfold fRepr at hf
  split at hf
  · rename_i d0
    split at hf
    · rename_i h
      cases hf
      obtain ⟨v, rfl, h1⟩ := repBL1 hr
      unfold D.shows at h
      simp only [Bool.and_eq_true, decide_eq_true_eq] at h
      obtain ⟨k1, k2, k3, k4, k5⟩ := h
      have hd := h1.dp s k2
      obtain ⟨a, rfl⟩ : ∃ a, v = .ref a := by
        unfold D.isSeq at k1
        split at k1
        · obtain ⟨a, _, rfl, _⟩ := repB_lst s h1; exact ⟨a, rfl⟩
        · obtain ⟨a, _, rfl, _⟩ := repB_tup s h1; exact ⟨a, rfl⟩
        · cases k1
      refine ⟨a, d0.py, rfl, hd, k4, PyData.hasDict_of_canLay _ (D.canLay d0 k2), ?_, k5, q _ H F (Grow.refl s) (.str _)⟩
      have := D.depth d0
      omega
    · cases hf
  · cases hf

/-! methods of texts -/
section
variable {X : Cx} {W : WX} {ent : Ent}
theorem tO_imp {G : Gb} {o : Opr} {σ : L2.St} {H : Hp} {Q Q' : VK} (h : tO G W ent o σ H Q) (k : ∀ v H, Q v H → Q' v H) : tO G W ent o σ H Q' := by
  cases o with
  | sl i => obtain ⟨v, h1, h2⟩ := h; exact ⟨v, h1, k _ _ h2⟩
  | ex m =>
    obtain ⟨e, S, F, rho, hR, hp⟩ := h
    refine ⟨e, S, F, rho, hR, ?_⟩
    revert hp
    cases m e S with
    | ok d e1 S1 => exact fun hp v H' F' rho' r s p w => k _ _ (hp v H' F' rho' r s p w)
    | exc x e1 S1 => exact fun hp => hp
    | stuck => exact fun hp => hp
/-- the value is seen to be of a form as soon as it is there -/
def mChk (f : D → Bool) (m : Ex) : Ex := fun e S => (m e S).bind fun d e S => if f d = true then .ok d e S else .stuck
theorem rdE_chk {G : Gb} {f : D → Bool} {m : Ex} {σ : L2.St} {H : Hp} {Q : VK} (h : rdE G W ent (mChk f m) σ H Q) : rdE G W ent m σ H (fun v H' => (∃ rho F d, Sub F H' ∧ Rep G rho F v d ∧ f d = true) ∧ Q v H') := by
  obtain ⟨e, S, F, rho, hR, hp⟩ := h
  refine ⟨e, S, F, rho, hR, ?_⟩
  unfold mChk at hp
  cases q : m e S with
  | ok d e1 S1 =>
    rw [q] at hp
    have hp : postE G W ent σ F rho Q (if f d = true then .ok d e1 S1 else .stuck) := hp
    split at hp
    · rename_i hd
      exact fun v H' F' rho' r s p w => ⟨⟨rho', F', d, r.sub, w, hd⟩, hp v H' F' rho' r s p w⟩
    · exact hp.elim
  | exc x e1 S1 => rw [q] at hp; exact hp
  | stuck => rw [q] at hp; exact hp
theorem repStr {G : Gb} {rho : List Addr} {F : Hp} {v : V} {d : D} (h : Rep G rho F v d) (e : d.isStr = true) : ∃ x, v = .str x := by
  cases h <;> first | exact ⟨_, rfl⟩ | cases e
theorem repInt {G : Gb} {rho : List Addr} {F : Hp} {v : V} {d : D} (h : Rep G rho F v d) (e : d.isInt = true) : ∃ x, v = .int x := by
  cases h <;> first | exact ⟨_, rfl⟩ | cases e
/-- a text's method, with arguments -/
theorem sem_sm {o e : Expr} {es : List Expr} {m : Ex} {os : List Opr} {name : Str} {id : String} {r : V → List V → Hp → VK → Prop} {f : PF} {apos cpos : Pos} (slot : PySem.Slot "str" name id) (hty : typeOf (.builtin id) = pure (.type "method_descriptor")) (hm : MtR X id r)
    (hf : PrimOk X.gb (fun vs H Q => match vs with | v :: vs => r v vs H Q | [] => False) f) (ho : PE X o (rdE X.gb W ent m)) (ha : OpsE X W ent (e :: es) os) (hpl : (e :: es).all plainA = true := by rfl)
    (hbase : attributeBase o name X.env (eval o X.env) = eval o X.env := by rfl)
    (hfew : ((backTo cpos (starEach (e :: es) X.env)).all (fun x => !x.1) && (backToKw cpos (keywordEach [] X.env)).all (fun x => x.1.isSome)
      && decide ((e :: es).length + ([] : List Keyword).length + (if ([] : List Keyword).isEmpty then 0 else 1) < 30)) = true := by rfl)
    (hline : (apos.endLine == cpos.line) = true := by rfl) : PE X (.Call (.Attribute o name apos) (e :: es) [] cpos) (rdE X.gb W ent (bPrim f (.ex (mChk D.isStr m) :: os))) := by
  rw [List.all_cons, Bool.and_eq_true] at hpl
  refine (pe_bm PySem.F.plainAttrs_str slot hty hm ho (pa_ops ha) hbase hfew hline (star_plain hpl.1 _ _) (back_plain hpl.2)).weak fun σ H Q h => ?_
  have h2 := rdE_chk (prim_of (os := .ex (mChk D.isStr m) :: os) hf h)
  refine tO_imp (o := .ex m) h2 fun v H' q => ?_
  obtain ⟨⟨rho, F, d, _, rp, hd⟩, q⟩ := q
  obtain ⟨x, rfl⟩ := repStr rp hd
  exact ⟨rfl, q⟩
theorem sem_sm0 {o : Expr} {m : Ex} {name : Str} {id : String} {r : V → List V → Hp → VK → Prop} {f : PF} {apos cpos : Pos} (slot : PySem.Slot "str" name id) (hty : typeOf (.builtin id) = pure (.type "method_descriptor")) (hm : MtR X id r)
    (hf : PrimOk X.gb (fun vs H Q => match vs with | v :: vs => r v vs H Q | [] => False) f) (ho : PE X o (rdE X.gb W ent m))
    (hbase : attributeBase o name X.env (eval o X.env) = eval o X.env := by rfl)
    (hline : (apos.endLine == cpos.line) = true := by rfl) : PE X (.Call (.Attribute o name apos) [] [] cpos) (rdE X.gb W ent (bPrim f [.ex (mChk D.isStr m)])) := by
  refine (pe_bm0 PySem.F.plainAttrs_str slot hty hm ho hbase hline).weak fun σ H Q h => ?_
  have h2 := rdE_chk (prim_of (os := [.ex (mChk D.isStr m)]) hf h)
  refine tO_imp (o := .ex m) h2 fun v H' q => ?_
  obtain ⟨⟨rho, F, d, _, rp, hd⟩, q⟩ := q
  obtain ⟨x, rfl⟩ := repStr rp hd
  exact ⟨rfl, q⟩
end
def strsD : List D → Option (List Str)
  | [] => some []
  | .str b :: ds => (strsD ds).map fun bs => b :: bs
  | _ :: _ => none
theorem strsD_rep {G : Gb} {rho : List Addr} {F : Hp} : ∀ {vs : List V} {ds : List D} {bs : List Str}, RepL G rho F vs ds → strsD ds = some bs → vs = bs.map V.str
  | _, _, _, .nil, h => by cases h; rfl
  | _, _, _, .cons (d := d) r l, h => by
    cases r with
    | str b =>
      unfold strsD at h
      cases e : strsD _ with
      | none => rw [e] at h; cases h
      | some bs => rw [e] at h; cases h; rw [strsD_rep l e]; rfl
    | _ => unfold strsD at h; cases h
def joinD (a : Str) (ds : List D) : Option D := match strsD ds with
  | some ys => if (ys.map (·.length)).sum + ys.length * a.length ≤ 16777216 then some (.str (Txt.join a ys)) else none
  | none => none
def fJoin : PF
  | [.str a, .lst ds] => joinD a ds
  | [.str a, .tup ds] => joinD a ds
  | _ => none
def rJoinA (K : PySem.W.Frag) : V → List V → Hp → VK → Prop := fun x xs H Q => ∃ a p, ∃ ys : List Str, x = .str a ∧ xs = [.ref p] ∧ (SqL K H p (ys.map V.str) ∨ SqT K H p (ys.map V.str)) ∧
    (ys.map (·.length)).sum + ys.length * a.length ≤ 16777216 ∧ Q (.str (Txt.join a ys)) H
theorem ok_join {G : Gb} : PrimOk G (fun vs H Q => match vs with | v :: vs => rJoinA G.K v vs H Q | [] => False) fJoin := by
  have key : ∀ {rho F a ds d xs}, RepL G rho F xs ds → joinD a ds = some d → ∃ ys, xs = ys.map V.str ∧ (ys.map (·.length)).sum + ys.length * a.length ≤ 16777216 ∧ d = .str (Txt.join a ys) := by
    intro rho F a ds d xs l h
    unfold joinD at h
    split at h
    · rename_i ys e
      split at h
      · rename_i hz; cases h; exact ⟨ys, strsD_rep l e, hz, rfl⟩
      · cases h
    · cases h
  intro rho F H vs ds d Q s hr hf q
  unfold fJoin at hf
  split at hf
  · obtain ⟨v, w, rfl, h1, h2⟩ := repBL2 hr
    cases repB_str h1
    obtain ⟨a, xs, rfl, t, z, l⟩ := repB_lst s h2
    obtain ⟨ys, rfl, hz, rfl⟩ := key l hf
    exact ⟨_, a, ys, rfl, rfl, .inl t, hz, q _ H F (Grow.refl s) (.str _)⟩
  · obtain ⟨v, w, rfl, h1, h2⟩ := repBL2 hr
    cases repB_str h1
    obtain ⟨a, xs, rfl, t, z, l⟩ := repB_tup s h2
    obtain ⟨ys, rfl, hz, rfl⟩ := key l hf
    exact ⟨_, a, ys, rfl, rfl, .inr t, hz, q _ H F (Grow.refl s) (.str _)⟩
  · cases hf

/-! slices -/
def cutL {α : Type} (xs : List α) (lo hi : Option Int) : List α := (xs.drop (HT.sIx xs.length 0 lo)).take (HT.sIx xs.length xs.length hi - HT.sIx xs.length 0 lo)
def cutD (d : D) (lo hi : Option Int) : Option D := match d with
  | .str z => if z.length ≤ sizeLine then some (.str (cutS z lo hi)) else none
  | .tup ds => some (.tup (cutL ds lo hi))
  | .lst ds => some (.lst (cutL ds lo hi))
  | _ => none
theorem RepL.cut {G : Gb} {rho : List Addr} {F : Hp} {vs : List V} {ds : List D} (l : RepL G rho F vs ds) (lo hi : Option Int) : RepL G rho F (cutV vs lo hi) (cutL ds lo hi) := by
  unfold cutV cutL
  rw [l.length]
  exact (l.drop _).take _
def rSlAll (K : PySem.W.Frag) : V → Option Int → Option Int → Hp → VK → Prop := fun x lo hi H Q => (rSlS x lo hi H Q ∨ rSlA K x lo hi H Q) ∨ rSlL K x lo hi H Q
theorem sl_all {X : Cx} : L2.SlR X (rSlAll X.K) := L2.SlR.or (L2.SlR.or sl_str sl_tupA) sl_list
theorem cut_fr {G : Gb} {rho : List Addr} {F H : Hp} {v : V} {d d' : D} {lo hi : Option Int} {Q : VK} (s : Sub F H) (h : RepB G rho F H v d) (e : cutD d lo hi = some d') (q : Cont G rho F H Q d') : rSlAll G.K v lo hi H Q := by
  unfold cutD at e
  split at e
  · split at e
    · rename_i hz
      cases e
      cases repB_str h
      exact .inl (.inl ⟨_, rfl, hz, q _ H F (Grow.refl s) (.str _)⟩)
    · cases e
  · rename_i ds
    cases e
    rcases h with h1 | ⟨a, t, rfl, ho, et⟩
    · cases h1 with
      | @tup a xs _ t1 t3 z l =>
        refine .inl (.inr ⟨a, xs, rfl, sqT_mono s t1, fun hw => ?_, fun hw p hp => ?_⟩)
        · have : cutL ds lo hi = ds := by
            unfold cutL
            rw [← l.length, hw.1, hw.2, l.length, List.drop_zero, Nat.sub_zero, List.take_length]
          rw [this] at q
          exact q _ H F (Grow.refl s) (.tup t1 t3 z l)
        · have g := Grow.alloc (o := .tup (cutV xs lo hi)) s hp
          exact q _ _ _ g (.tup (.of upd_same) (fun _ => upd_same) (Nat.le_trans (cutV_length xs lo hi) z) ((l.cut lo hi).mono (g.sub s) (Pre.refl _)))
    · cases t <;> first | exact ho.elim | cases et
  · cases e
    obtain ⟨a, xs, rfl, t, z, l⟩ := repB_lst s h
    exact .inr ⟨a, xs, rfl, t, fun p hp => q p (cutV xs lo hi) H F (Grow.refl s) hp (Nat.le_trans (cutV_length xs lo hi) z) (l.cut lo hi)⟩
  · cases e
def fSl11 : PF
  | [d, .int i, .int j] => cutD d (some i) (some j)
  | _ => none
def fSl10 : PF
  | [d, .int i] => cutD d (some i) none
  | _ => none
def fSl01 : PF
  | [d, .int j] => cutD d none (some j)
  | _ => none
def mInt (m : Ex) : Opr := .ex (mChk D.isInt m)
section
variable {X : Cx} {W : WX} {ent : Ent} {o a b : Expr} {oo : Opr} {ma mb : Ex} {pos p2 : Pos}
def rSl11 (K : PySem.W.Frag) : List V → Hp → VK → Prop := fun vs H Q => match vs with
  | [x, y, z] => ∀ i j, y = .int i → z = .int j → rSlAll K x (some i) (some j) H Q
  | _ => False
def rSl10 (K : PySem.W.Frag) : List V → Hp → VK → Prop := fun vs H Q => match vs with
  | [x, y] => ∀ i, y = .int i → rSlAll K x (some i) none H Q
  | _ => False
def rSl01 (K : PySem.W.Frag) : List V → Hp → VK → Prop := fun vs H Q => match vs with
  | [x, y] => ∀ i, y = .int i → rSlAll K x none (some i) H Q
  | _ => False
theorem fr_sl11 {G : Gb} : PrimFr G (rSl11 G.K) fSl11 := by
  intro rho F H vs ds d Q s hr hf q
  unfold fSl11 at hf
  split at hf
  · obtain ⟨x, y, z, rfl, h1, h2, h3⟩ := repBL3 hr
    cases repB_int h2; cases repB_int h3
    intro i j e1 e2
    cases e1; cases e2
    exact cut_fr s h1 hf q
  · cases hf
theorem fr_sl10 {G : Gb} : PrimFr G (rSl10 G.K) fSl10 := by
  intro rho F H vs ds d Q s hr hf q
  unfold fSl10 at hf
  split at hf
  · obtain ⟨x, y, rfl, h1, h2⟩ := repBL2 hr
    cases repB_int h2
    intro i e1
    cases e1
    exact cut_fr s h1 hf q
  · cases hf
theorem fr_sl01 {G : Gb} : PrimFr G (rSl01 G.K) fSl01 := by
  intro rho F H vs ds d Q s hr hf q
  unfold fSl01 at hf
  split at hf
  · obtain ⟨x, y, rfl, h1, h2⟩ := repBL2 hr
    cases repB_int h2
    intro i e1
    cases e1
    exact cut_fr s h1 hf q
  · cases hf
theorem part_of {G : Gb} {m : Ex} {σ : L2.St} {H : Hp} {Q : Option Int → Hp → Prop} (h : tO G W ent (mInt m) σ H (fun y H' => ∀ i, y = .int i → Q (some i) H')) : tPart (rdE G W ent m) σ H Q := by
  refine tO_imp (o := .ex m) (rdE_chk h) fun v H' q => ?_
  obtain ⟨⟨rho, F, d, _, rp, hd⟩, q⟩ := q
  obtain ⟨x, rfl⟩ := repInt rp hd
  exact ⟨x, rfl, q x rfl⟩
theorem tSl11 {G : Gb} {σ : L2.St} {H : Hp} {Q : VK} (h : tOs G W ent [oo, mInt ma, mInt mb] σ H (fun vs H' => rSl11 G.K vs H' Q)) : tSl (rSlAll G.K) (tO G W ent oo) (tPart (rdE G W ent ma)) (tPart (rdE G W ent mb)) σ H Q := by
  refine tO_imp h fun x H1 h1 => part_of (tO_imp h1 fun y H2 h2 i hi => part_of (tO_imp h2 fun z H3 h3 j hj => h3 i j hi hj))
theorem tSl10 {G : Gb} {σ : L2.St} {H : Hp} {Q : VK} (h : tOs G W ent [oo, mInt ma] σ H (fun vs H' => rSl10 G.K vs H' Q)) : tSl (rSlAll G.K) (tO G W ent oo) (tPart (rdE G W ent ma)) tNoPart σ H Q := by
  refine tO_imp h fun x H1 h1 => part_of (tO_imp h1 fun y H2 h2 i hi => h2 i hi)
theorem tSl01 {G : Gb} {σ : L2.St} {H : Hp} {Q : VK} (h : tOs G W ent [oo, mInt ma] σ H (fun vs H' => rSl01 G.K vs H' Q)) : tSl (rSlAll G.K) (tO G W ent oo) tNoPart (tPart (rdE G W ent ma)) σ H Q := by
  refine tO_imp h fun x H1 h1 => ?_
  unfold tNoPart
  refine part_of (tO_imp h1 fun y H2 h2 i hi => h2 i hi)
theorem sem_sl11 (ho : OpE X W ent o oo) (ha : PE X a (rdE X.gb W ent ma)) (hb : PE X b (rdE X.gb W ent mb)) : PE X (.Subscript o (.Slice (some a) (some b) none p2) pos) (rdE X.gb W ent (bPrim fSl11 [oo, mInt ma, mInt mb])) :=
  (pe_slice sl_all ho (po_some ha) (po_some hb)).weak fun σ H Q h => tSl11 (prim_of fr_sl11.ok h)
theorem sem_sl10 (ho : OpE X W ent o oo) (ha : PE X a (rdE X.gb W ent ma)) : PE X (.Subscript o (.Slice (some a) none none p2) pos) (rdE X.gb W ent (bPrim fSl10 [oo, mInt ma])) :=
  (pe_slice sl_all ho (po_some ha) po_none).weak fun σ H Q h => tSl10 (prim_of fr_sl10.ok h)
theorem sem_sl01 (ho : OpE X W ent o oo) (ha : PE X a (rdE X.gb W ent ma)) : PE X (.Subscript o (.Slice none (some a) none p2) pos) (rdE X.gb W ent (bPrim fSl01 [oo, mInt ma])) :=
  (pe_slice sl_all ho po_none (po_some ha)).weak fun σ H Q h => tSl01 (prim_of fr_sl01.ok h)
theorem semW_sl11 (ho : OpE X W ent o oo) (ha : PE X a (rdE X.gb W ent ma)) (hb : PE X b (rdE X.gb W ent mb)) : PE X (.Subscript o (.Slice (some a) (some b) none p2) pos) (rdW X.gb W ent (wPrim fSl11 [oo, mInt ma, mInt mb])) :=
  (pe_slice sl_all ho (po_some ha) (po_some hb)).weak fun σ H Q h => tSl11 (primW_of fr_sl11 h)
theorem semW_sl10 (ho : OpE X W ent o oo) (ha : PE X a (rdE X.gb W ent ma)) : PE X (.Subscript o (.Slice (some a) none none p2) pos) (rdW X.gb W ent (wPrim fSl10 [oo, mInt ma])) :=
  (pe_slice sl_all ho (po_some ha) po_none).weak fun σ H Q h => tSl10 (primW_of fr_sl10 h)
theorem semW_sl01 (ho : OpE X W ent o oo) (ha : PE X a (rdE X.gb W ent ma)) : PE X (.Subscript o (.Slice none (some a) none p2) pos) (rdW X.gb W ent (wPrim fSl01 [oo, mInt ma])) :=
  (pe_slice sl_all ho po_none (po_some ha)).weak fun σ H Q h => tSl01 (primW_of fr_sl01 h)
end
end TM
namespace TM
open PySem PySem.Spec L2
open PyProof.Rows hiding St

section
variable {G : Gb} {W : WX} {ent : Ent} {e : Env} {S : Sto} {σ : L2.St} {H F : Hp} {rho : List Addr}
/-- an owned object is changed -/
theorem R.upOwn (r : R G ent e S σ H F rho) {i : Nat} {s t : Slot} {a : Addr} {o : HO} (hi : e[i]? = some (some s)) (hs : s.isVal = false) (ha : σ[i]? = some (some (.ref a))) (ho : OwnAt G rho F (upd H a o) a t) (ht : t.isVal = false) :
    R G ent (e.set i (some t)) S σ (upd H a o) F rho := by
  obtain ⟨b, q1, q2, q3, q4, q5⟩ := r.own i s hi hs
  rw [ha] at q1; cases q1
  have key : ∀ (j : Nat) (u : Slot), (e.set i (some t))[j]? = some (some u) → u.isVal = false → (j = i ∧ u = t) ∨ (j ≠ i ∧ e[j]? = some (some u)) := fun j u hj _ => by
    rcases get_set hj with ⟨h1, h2⟩ | ⟨h1, h2⟩
    · cases h2; exact .inl ⟨h1.symm, rfl⟩
    · exact .inr ⟨fun z => h1 z.symm, h2⟩
  have orig : ∀ (j : Nat) (u : Slot), (e.set i (some t))[j]? = some (some u) → u.isVal = false → ∃ u', e[j]? = some (some u') ∧ u'.isVal = false := fun j u hj hu => by
    rcases key j u hj hu with ⟨rfl, _⟩ | ⟨_, h⟩
    · exact ⟨s, hi, hs⟩
    · exact ⟨u, h, hu⟩
  refine ⟨by rw [List.length_set]; exact r.len, fun b u h => ?_, fun j d hj => ?_, fun j u hj hu => ?_, fun j l u v c hj hu hl hv h1 h2 => ?_, r.slen, fun n u b h1 h2 => ?_, r.nod, fun b u h => ?_, r.sub0, r.pre0⟩
  · rw [upd_ne (fun z => by subst z; rw [q3] at h; cases h)]; exact r.sub b u h
  · rcases get_set hj with ⟨h1, h2⟩ | ⟨h1, h2⟩
    · cases h2; cases ht
    · exact r.val j d h2
  · rcases key j u hj hu with ⟨rfl, rfl⟩ | ⟨hne, h⟩
    · exact ⟨a, ha, ho, q3, q4, q5⟩
    · obtain ⟨b, k1, k2, k3, k4, k5⟩ := r.own j u h hu
      refine ⟨b, k1, k2.mono (Sub.refl _) (Pre.refl _) (upd_ne fun z => ?_), k3, k4, k5⟩
      subst z
      exact hne (r.sep j i u s b h hu hi hs k1 ha)
  · obtain ⟨u', k1, k2⟩ := orig j u hj hu
    obtain ⟨v', k3, k4⟩ := orig l v hl hv
    exact r.sep j l u' v' c k1 k2 k3 k4 h1 h2
  · obtain ⟨q, f⟩ := r.sto n u b h1 h2
    exact ⟨q.mono (Sub.refl _) (Pre.refl _) (upd_ne (fun z : b = a => q5 (by rw [← z]; exact List.mem_of_getElem? h2))), f⟩
  · obtain ⟨k1, k2, k3⟩ := r.keep b u h
    exact ⟨by rw [upd_ne (fun z : b = a => q4 u (by rw [← z]; exact h))]; exact k1, k2, k3⟩
/-- an object of the store is changed -/
theorem R.upSto (r : R G ent e S σ H F rho) {n : Nat} {u : Ob} {a : Addr} {o : HO} (hn : S[n]? = some u) (hr : rho[n]? = some a) (t : Ob) (ho : ObRep G rho F (upd H a o) a t) : R G ent e (S.set n t) σ (upd H a o) F rho := by
  obtain ⟨q, f⟩ := r.sto n u a hn hr
  have hm : a ∈ rho := List.mem_of_getElem? hr
  refine ⟨r.len, fun b u h => ?_, r.val, fun j u hj hu => ?_, r.sep, by rw [List.length_set]; exact r.slen, fun m u b h1 h2 => ?_, r.nod, fun b u h => ?_, r.sub0, r.pre0⟩
  · rw [upd_ne (fun z => by subst z; rw [f] at h; cases h)]; exact r.sub b u h
  · obtain ⟨b, k1, k2, k3, k4, k5⟩ := r.own j u hj hu
    exact ⟨b, k1, k2.mono (Sub.refl _) (Pre.refl _) (upd_ne fun z : b = a => k5 (by rw [z]; exact hm)), k3, k4, k5⟩
  · by_cases e1 : n = m
    · subst e1
      rw [hr] at h2; cases h2
      have hl : n < S.length := (List.getElem?_eq_some_iff.mp hn).1
      rw [List.getElem?_set_self hl] at h1
      cases h1
      exact ⟨ho, f⟩
    · rw [List.getElem?_set_ne e1] at h1
      obtain ⟨k1, k2⟩ := r.sto m u b h1 h2
      refine ⟨k1.mono (Sub.refl _) (Pre.refl _) (upd_ne fun z : b = a => ?_), k2⟩
      subst z
      have h3 : n < rho.length := (List.getElem?_eq_some_iff.mp hr).1
      exact e1 ((List.getElem?_inj h3 r.nod).mp (hr.trans h2.symm))
  · obtain ⟨k1, k2, k3⟩ := r.keep b u h
    exact ⟨by rw [upd_ne (fun z : b = a => k3 (by rw [z]; exact hm))]; exact k1, k2, k3⟩
/-- a new object of the store -/
theorem R.newS (r : R G ent e S σ H F rho) {p : Addr} {o : HO} (hf : F p = none) (hr : p ∉ rho) (h0 : ∀ o, ¬ ent.Pr p o) (hn : NoSlot e σ p) (t : Ob) (ho : ObRep G (rho ++ [p]) F (upd H p o) p t) : R G ent e (S ++ [t]) σ (upd H p o) F (rho ++ [p]) := by
  have r2 := r.poke (o := o) hf hr h0 hn
  have pr : Pre rho (rho ++ [p]) := Pre.snoc rho p
  refine ⟨r.len, r2.sub, fun i d h => ?_, fun i s h hs => ?_, r2.sep, by rw [List.length_append, List.length_append, r.slen]; rfl, fun m u b h1 h2 => ?_, ?_, fun b u h => ?_, r.sub0, r.pre0.trans pr⟩
  · obtain ⟨v, k1, k2⟩ := r2.val i d h
    exact ⟨v, k1, k2.mono (Sub.refl _) pr⟩
  · obtain ⟨b, k1, k2, k3, k4, k5⟩ := r2.own i s h hs
    refine ⟨b, k1, k2.mono (Sub.refl _) pr rfl, k3, k4, fun z => ?_⟩
    rcases List.mem_append.mp z with z | z
    · exact k5 z
    · rw [List.mem_singleton] at z; subst z
      exact hn i s h hs k1
  · by_cases hl : m < S.length
    · rw [List.getElem?_append_left hl] at h1
      rw [List.getElem?_append_left (by rw [← r.slen]; exact hl)] at h2
      obtain ⟨k1, k2⟩ := r2.sto m u b h1 h2
      exact ⟨k1.mono (Sub.refl _) pr rfl, k2⟩
    · have hm : m = S.length := by
        have := (List.getElem?_eq_some_iff.mp h1).1
        rw [List.length_append] at this
        simp at this
        omega
      subst hm
      rw [List.getElem?_append_right (Nat.le_refl _), Nat.sub_self] at h1
      rw [r.slen, List.getElem?_append_right (Nat.le_refl _), Nat.sub_self] at h2
      cases h1; cases h2
      exact ⟨ho, hf⟩
  · rw [List.nodup_append]
    exact ⟨r.nod, by simp, fun a ha b hb => by rw [List.mem_singleton] at hb; subst hb; intro z; subst z; exact hr ha⟩
  · obtain ⟨k1, k2, k3⟩ := r2.keep b u h
    refine ⟨k1, k2, fun z => ?_⟩
    rcases List.mem_append.mp z with z | z
    · exact k3 z
    · rw [List.mem_singleton] at z; subst z
      exact h0 u h
end

/-! methods of owned lists -/
abbrev MF := List D → List D → Option (List D × D)
def mMut (i : Nat) (f : MF) (ms : List Ex) : Ex := fun e S => match e[i]? with
  | some (some (.own _)) => (evX ms e S).bind fun ds e S => match e[i]? with
    | some (some (.own xs)) => match f xs ds with
      | some (ys, d) => if ys.length ≤ sizeLine then .ok d (e.set i (some (.own ys))) S else .stuck
      | none => .stuck
    | _ => .stuck
  | _ => .stuck
def MutOk (G : Gb) (r : V → List V → Hp → VK → Prop) (f : MF) : Prop := ∀ {rho : List Addr} {F H : Hp} {a : Addr} {vs as : List V} {xs ds ys : List D} {d : D} {Q : VK}, Sub F H → H a = some (.lst vs) → RepL G rho F vs xs → RepL G rho F as ds → f xs ds = some (ys, d) → ys.length ≤ sizeLine →
  (∀ v ws, RepL G rho F ws ys → Rep G rho F v d → Q v (upd H a (.lst ws))) → r (.ref a) as H Q
section
variable {X : Cx} {W : WX} {ent : Ent} {Z : En} {N : List Str} {sc : Scope} {fs : Str → Bool} {k : Nat}
theorem mut_core {G : Gb} {i : Nat} {f : MF} {ms : List Ex} {r : V → List V → Hp → VK → Prop} {σ : L2.St} {H : Hp} {Q : VK} (hf : MutOk G r f) (h : rdE G W ent (mMut i f ms) σ H Q) :
    ∃ v, σ[i]? = some (some v) ∧ tyV G.K "list" v H ∧ tOs G W ent (ms.map .ex) σ H fun xs H2 => r v xs H2 Q := by
  obtain ⟨e, S, F, rho, hR, hp⟩ := h
  unfold mMut at hp
  split at hp
  · rename_i d0 hi
    obtain ⟨a, q1, ⟨xs0, hx, _, _⟩, _⟩ := hR.own i _ hi rfl
    refine ⟨.ref a, q1, .inl ⟨rfl, xs0, .of hx⟩, tXs_of hR ?_⟩
    cases q : evX ms e S with
    | ok ds e1 S1 =>
      rw [q] at hp
      intro vs H' F' rho' r' s p l
      have hp : postE G W ent σ F rho Q (match e1[i]? with
        | some (some (.own xs)) => match f xs ds with
          | some (ys, d) => if ys.length ≤ sizeLine then .ok d (e1.set i (some (.own ys))) S1 else .stuck
          | none => .stuck
        | _ => .stuck) := hp
      split at hp
      · rename_i xs hi2
        split at hp
        · rename_i ys d hfd
          split at hp
          · rename_i hz
            obtain ⟨b, k1, ⟨vs0, kx, kz, kl⟩, _⟩ := r'.own i _ hi2 rfl
            rw [q1] at k1; cases k1
            refine hf r'.sub kx kl l hfd hz fun v ws hw hv => ?_
            refine hp v _ F' rho' (r'.upOwn hi2 rfl q1 ⟨ws, upd_same, by rw [hw.length]; exact hz, hw⟩ rfl) s p hv
          · exact hp.elim
        · exact hp.elim
      · exact hp.elim
    | exc x e1 S1 => rw [q] at hp; exact hp
    | stuck => rw [q] at hp; exact hp
  · exact hp.elim
theorem sem_lm {i : Nat} {y : Str} {e : Expr} {es : List Expr} {ms : List Ex} {name : Str} {id : String} {r : V → List V → Hp → VK → Prop} {f : MF} {p apos cpos : Pos} (c : Bx Z N sc fs k X W) (slot : PySem.Slot "list" name id) (hty : typeOf (.builtin id) = pure (.type "method_descriptor")) (hm : MtR X id r)
    (hf : MutOk X.gb r f) (hv : vOk N sc i y = true) (ha : OpsE X W ent (e :: es) (ms.map .ex)) (hpl : (e :: es).all plainA = true := by rfl)
    (hbase : attributeBase (.Name y p) name X.env (eval (.Name y p) X.env) = eval (.Name y p) X.env := by rfl)
    (hfew : ((backTo cpos (starEach (e :: es) X.env)).all (fun x => !x.1) && (backToKw cpos (keywordEach [] X.env)).all (fun x => x.1.isSome)
      && decide ((e :: es).length + ([] : List Keyword).length + (if ([] : List Keyword).isEmpty then 0 else 1) < 30)) = true := by rfl)
    (hline : (apos.endLine == cpos.line) = true := by rfl) : PE X (.Call (.Attribute (.Name y p) name apos) (e :: es) [] cpos) (rdE X.gb W ent (mMut i f ms)) := by
  rw [List.all_cons, Bool.and_eq_true] at hpl
  exact (pe_bm PySem.F.plainAttrs_list slot hty hm (rv c i hv) (pa_ops ha) hbase hfew hline (star_plain hpl.1 _ _) (back_plain hpl.2)).weak fun σ H Q h => mut_core hf h
theorem sem_lm0 {i : Nat} {y : Str} {name : Str} {id : String} {r : V → List V → Hp → VK → Prop} {f : MF} {p apos cpos : Pos} (c : Bx Z N sc fs k X W) (slot : PySem.Slot "list" name id) (hty : typeOf (.builtin id) = pure (.type "method_descriptor")) (hm : MtR X id r)
    (hf : MutOk X.gb r f) (hv : vOk N sc i y = true)
    (hbase : attributeBase (.Name y p) name X.env (eval (.Name y p) X.env) = eval (.Name y p) X.env := by rfl)
    (hline : (apos.endLine == cpos.line) = true := by rfl) : PE X (.Call (.Attribute (.Name y p) name apos) [] [] cpos) (rdE X.gb W ent (mMut i f [])) :=
  (pe_bm0 PySem.F.plainAttrs_list slot hty hm (rv c i hv) hbase hline).weak fun σ H Q h => mut_core hf h
end
def mfAppend : MF := fun xs ds => match ds with
  | [d] => some (xs ++ [d], .non)
  | _ => none
def mfInsert : MF := fun xs ds => match ds with
  | [.int i, d] => if nnI i = true then some (xs.take i.toNat ++ [d] ++ xs.drop i.toNat, .non) else none
  | _ => none
def mfPopAt : MF := fun xs ds => match ds with
  | [.int i] => if smI i = true then match seqIndex? i xs.length with
    | some k => match xs[k]? with
      | some d => some (xs.eraseIdx k, d)
      | none => none
    | none => none
    else none
  | _ => none
def mfPop : MF := fun xs ds => match ds with
  | [] => match xs[xs.length - 1]? with
    | some d => some (xs.dropLast, d)
    | none => none
  | _ => none
theorem RepL.one {G : Gb} {rho : List Addr} {F : Hp} {vs : List V} {d : D} (h : RepL G rho F vs [d]) : ∃ v, vs = [v] ∧ Rep G rho F v d := by
  cases h with | cons h t => cases t; exact ⟨_, rfl, h⟩
theorem RepL.two {G : Gb} {rho : List Addr} {F : Hp} {vs : List V} {d d2 : D} (h : RepL G rho F vs [d, d2]) : ∃ v v2, vs = [v, v2] ∧ Rep G rho F v d ∧ Rep G rho F v2 d2 := by
  cases h with | cons h t => obtain ⟨w, rfl, q⟩ := t.one; exact ⟨_, w, rfl, h, q⟩
theorem rep_int {G : Gb} {rho : List Addr} {F : Hp} {v : V} {i : Int} (h : Rep G rho F v (.int i)) : v = .int i := by cases h; rfl
theorem ok_append {G : Gb} : MutOk G rAppend mfAppend := by
  intro rho F H a vs as xs ds ys d Q s hx l la hf z q
  unfold mfAppend at hf
  split at hf
  · cases hf
    obtain ⟨y, rfl, r⟩ := la.one
    rw [List.length_append] at z
    exact ⟨a, vs, y, rfl, rfl, hx, by rw [l.length]; simp at z; omega, q _ _ (l.append (.cons r .nil)) .non⟩
  · cases hf
def rInsert : V → List V → Hp → VK → Prop := fun x vs H Q => ∃ (l : Addr) (xs : List V) (i : Int) (y : V), x = .ref l ∧ vs = [.int i, y] ∧ H l = some (.lst xs) ∧ xs.length < sizeLine ∧ 0 ≤ i ∧ i < 2 ^ 63 ∧
    Q .non (upd H l (.lst (xs.take i.toNat ++ [y] ++ xs.drop i.toNat)))
theorem ok_insert {G : Gb} : MutOk G rInsert mfInsert := by
  intro rho F H a vs as xs ds ys d Q s hx l la hf z q
  unfold mfInsert at hf
  split at hf
  · split at hf
    · rename_i hi
      cases hf
      obtain ⟨x, y, rfl, r1, r2⟩ := la.two
      cases rep_int r1
      have h9 := nnI_of hi
      refine ⟨a, vs, _, y, rfl, rfl, hx, ?_, by omega, by omega, q _ _ (((l.take _).append (.cons r2 .nil)).append (l.drop _)) .non⟩
      rw [l.length]
      simp only [List.length_append, List.length_take, List.length_drop, List.length_cons, List.length_nil] at z
      omega
    · cases hf
  · cases hf
theorem ok_popAt {G : Gb} : MutOk G rPopAt mfPopAt := by
  intro rho F H a vs as xs ds ys d Q s hx l la hf z q
  unfold mfPopAt at hf
  split at hf
  · split at hf
    · rename_i hi
      split at hf
      · rename_i k hk
        split at hf
        · rename_i d0 hd
          cases hf
          obtain ⟨x, rfl, r1⟩ := la.one
          cases rep_int r1
          obtain ⟨y, hy, r2⟩ := l.get hd
          have h9 := smI_of hi
          exact ⟨a, vs, _, k, y, rfl, rfl, hx, by omega, by omega, by rw [l.length]; exact hk, hy, q _ _ (l.eraseIdx k) r2⟩
        · cases hf
      · cases hf
    · cases hf
  · cases hf
theorem ok_pop {G : Gb} : MutOk G rPop mfPop := by
  intro rho F H a vs as xs ds ys d Q s hx l la hf z q
  unfold mfPop at hf
  split at hf
  · split at hf
    · rename_i d0 hd
      cases hf
      cases la
      obtain ⟨y, hy, r2⟩ := l.get hd
      refine ⟨a, vs, y, rfl, rfl, hx, by rw [l.length]; exact hy, q _ _ ?_ r2⟩
      rw [List.dropLast_eq_take, List.dropLast_eq_take, l.length]
      exact l.take _
    · cases hf
  · cases hf

/-! xs[i] = v of an owned list -/
def sPutL (i : Nat) (mi mv : Ex) : Sm := fun e S => (mv e S).bind fun v e S => match e[i]? with
  | some (some (.own _)) => (mi e S).bind fun j e S => match e[i]?, j with
    | some (some (.own xs)), .int k => match ixN xs.length k with
      | some j => .ok .next (e.set i (some (.own (xs.set j v)))) S
      | none => .stuck
    | _, _ => .stuck
  | _ => .stuck
section
variable {X : Cx} {W : WX} {ent : Ent} {Z : En} {N : List Str} {sc : Scope} {fs : Str → Bool} {k : Nat}
theorem semS_putL {i : Nat} {y : Str} {ix value : Expr} {mi mv : Ex} {p pos' pos : Pos} (c : Bx Z N sc fs k X W) (hv : vOk N sc i y = true) (hi : PE X ix (rdE X.gb W ent mi)) (hx : PE X value (rdE X.gb W ent mv))
    (ha : ∀ v, assign (.Subscript (.Name y p) ix pos') X.env v = (do
      let ov ← holding [v] (eval (.Name y p) X.env)
      let iv ← holding [v, ov] (eval ix X.env)
      standAt pos'
      holding [v, ov, iv] (setItem ov iv v)
      release [v, ov, iv] []) := by intro _; rfl)
    (hs : swapsWithSole [.Subscript (.Name y p) ix pos'] value pos.line X.env = pure false := by rfl) (hw : swappedStores [.Subscript (.Name y p) ix pos'] value X.env = pure none := by rfl)
    (h1 : (assignEach [.Subscript (.Name y p) ix pos'] X.env).map (·.2) = [assign (.Subscript (.Name y p) ix pos') X.env] := by rfl) :
    PS X (.Assign [.Subscript (.Name y p) ix pos'] value pos) (rdS X.gb W ent (sPutL i mi mv)) :=
  (ps_asg hx (pg_sub (rv c i hv) hi set_list ha) hs hw h1).weak fun D σ H ⟨e, S, F, rho, hR, hp⟩ => by
    refine ⟨e, S, F, rho, hR, ?_⟩
    unfold sPutL at hp
    cases q : mv e S with
    | ok d e1 S1 =>
      rw [q] at hp
      intro v H1 F1 rho1 r1 s1 p1 rep1
      have hp : postS X.gb W ent F rho D (match e1[i]? with
        | some (some (.own _)) => (mi e1 S1).bind fun j e S => match e[i]?, j with
          | some (some (.own xs)), .int k => match ixN xs.length k with
            | some j => .ok .next (e.set i (some (.own (xs.set j d)))) S
            | none => .stuck
          | _, _ => .stuck
        | _ => .stuck) := hp
      split at hp
      · rename_i xs0 hi0
        obtain ⟨a, q1, _⟩ := r1.own i _ hi0 rfl
        refine ⟨.ref a, q1, e1, S1, F1, rho1, r1, ?_⟩
        cases q2 : mi e1 S1 with
        | ok j e2 S2 =>
          rw [q2] at hp
          intro w H2 F2 rho2 r2 s2 p2 rep2
          have hp : postS X.gb W ent F rho D (match (generalizing := false) e2[i]?, j with
            | some (some (.own xs)), .int k => match ixN xs.length k with
              | some j => .ok .next (e2.set i (some (.own (xs.set j d)))) S2
              | none => .stuck
            | _, _ => .stuck) := hp
          split at hp
          · rename_i xs k hi2 hk0
            split at hp
            · rename_i j hj
              cases rep_int rep2
              obtain ⟨b, k1, ⟨vs0, kx, kz, kl⟩, _⟩ := r2.own i _ hi2 rfl
              rw [q1] at k1; cases k1
              refine ⟨a, vs0, k, j, rfl, rfl, kx, by rw [kl.length]; exact hj, ?_⟩
              exact hp σ _ F2 rho2 (r2.upOwn hi2 rfl q1 ⟨_, upd_same, by rw [List.length_set]; exact kz, kl.set (rep1.mono s2 p2) j⟩ rfl) (s1.trans s2) (p1.trans p2)
            · exact hp.elim
          · exact hp.elim
        | exc x e2 S2 => rw [q2] at hp; exact postX.mono s1 p1 (hp σ)
        | stuck => rw [q2] at hp; exact hp.elim
      · exact hp.elim
    | exc x e1 S1 => rw [q] at hp; exact hp σ
    | stuck => rw [q] at hp; exact hp
end
end TM
namespace TM
open PySem PySem.Spec L2
open PyProof.Rows hiding St

/-! dicts of the store -/
def valKD (kvs : List (Key × D)) (k : Key) : Option D := (kvs.find? fun kv => decide (kv.1 = k)).map (·.2)
def putKD (kvs : List (Key × D)) (k : Key) (v : D) : List (Key × D) :=
  if (kvs.any fun kv => decide (kv.1 = k)) = true then kvs.map (fun kv => if kv.1 = k then (kv.1, v) else kv) else kvs ++ [(k, v)]
structure KRel (G : Gb) (rho : List Addr) (F : Hp) (vs : List (Key × V)) (ds : List (Key × D)) : Prop where
  keys : vs.map (·.1) = ds.map (·.1)
  vals : RepL G rho F (vs.map (·.2)) (ds.map (·.2))
section
variable {G : Gb} {rho : List Addr} {F : Hp}
theorem KRel.nil : KRel G rho F [] [] := ⟨rfl, .nil⟩
theorem KRel.cons {k : Key} {v : V} {d : D} {vs : List (Key × V)} {ds : List (Key × D)} (h : Rep G rho F v d) (t : KRel G rho F vs ds) : KRel G rho F ((k, v) :: vs) ((k, d) :: ds) := ⟨by simp [t.keys], .cons h t.vals⟩
theorem KRel.ind {P : List (Key × V) → List (Key × D) → Prop} (h0 : P [] []) (h1 : ∀ k v d vs ds, Rep G rho F v d → KRel G rho F vs ds → P vs ds → P ((k, v) :: vs) ((k, d) :: ds)) : ∀ {vs ds}, KRel G rho F vs ds → P vs ds
  | [], [], _ => h0
  | (k, v) :: vs, (k2, d) :: ds, h => by
    obtain ⟨h2, h3⟩ := h
    simp only [List.map_cons, List.cons.injEq] at h2
    obtain ⟨rfl, h2⟩ := h2
    cases h3 with
    | cons r l => exact h1 _ _ _ _ _ r ⟨h2, l⟩ (KRel.ind h0 h1 ⟨h2, l⟩)
  | [], _ :: _, h => by have := h.keys; simp at this
  | _ :: _, [], h => by have := h.keys; simp at this
theorem KRel.any {k : Key} {vs ds} (h : KRel G rho F vs ds) : (vs.any fun kv => decide (kv.1 = k)) = (ds.any fun kv => decide (kv.1 = k)) := by
  refine KRel.ind (P := fun vs ds => (vs.any fun kv => decide (kv.1 = k)) = (ds.any fun kv => decide (kv.1 = k))) rfl (fun k v d vs ds r t ih => ?_) h
  simp only [List.any_cons, ih]
theorem KRel.get {k : Key} {d : D} {vs ds} (h : KRel G rho F vs ds) (e : valKD ds k = some d) : ∃ v, valV vs k = some v ∧ Rep G rho F v d := by
  revert e
  refine KRel.ind (P := fun vs ds => valKD ds k = some d → ∃ v, valV vs k = some v ∧ Rep G rho F v d) (fun e => by simp [valKD] at e) (fun k2 v d2 vs ds r t ih e => ?_) h
  by_cases q : k2 = k
  · subst q
    unfold valKD at e
    rw [List.find?_cons] at e
    simp at e
    subst e
    exact ⟨v, valV_pos rfl, r⟩
  · have : valKD ds k = some d := by
      unfold valKD at e ⊢
      rw [List.find?_cons] at e
      simpa [q] using e
    obtain ⟨w, h1, h2⟩ := ih this
    exact ⟨w, by rw [valV_neg (p := (k2, v)) q]; exact h1, h2⟩
theorem KRel.app {vs ds vs2 ds2} (h : KRel G rho F vs ds) (h2 : KRel G rho F vs2 ds2) : KRel G rho F (vs ++ vs2) (ds ++ ds2) := ⟨by simp [h.keys, h2.keys], by rw [List.map_append, List.map_append]; exact h.vals.append h2.vals⟩
theorem KRel.put {k : Key} {v : V} {d : D} {vs ds} (h : KRel G rho F vs ds) (r : Rep G rho F v d) : KRel G rho F (putK vs k v) (putKD ds k d) := by
  unfold putK putKD
  rw [h.any]
  split
  · refine KRel.ind (P := fun vs ds => KRel G rho F (vs.map fun kv => if kv.1 = k then (kv.1, v) else kv) (ds.map fun kv => if kv.1 = k then (kv.1, d) else kv)) .nil (fun k2 v2 d2 vs ds r2 t ih => ?_) h
    rw [List.map_cons, List.map_cons]
    by_cases q : k2 = k
    · simp only [q, if_true]; exact .cons r ih
    · simp only [q, if_false]; exact .cons r2 ih
  · exact h.app (.cons r .nil)
def mergeKD (kvs more : List (Key × D)) : List (Key × D) := more.foldl (fun acc kv => putKD acc kv.1 kv.2) kvs
theorem KRel.merge : ∀ {more mored vs ds}, KRel G rho F more mored → KRel G rho F vs ds → KRel G rho F (mergeK vs more) (mergeKD ds mored) := by
  intro more mored vs ds h
  refine KRel.ind (P := fun more mored => ∀ {vs ds}, KRel G rho F vs ds → KRel G rho F (mergeK vs more) (mergeKD ds mored)) (fun q => q) (fun k v d more mored r t ih vs ds q => ?_) h
  exact ih (q.put r)
theorem KRel.mono {F' : Hp} {rho' : List Addr} {vs ds} (s : Sub F F') (p : Pre rho rho') (h : KRel G rho F vs ds) : KRel G rho' F' vs ds := ⟨h.keys, h.vals.mono s p⟩
theorem rep_ref {v : V} {n : Nat} (h : Rep G rho F v (.ref n)) : ∃ a, v = .ref a ∧ rho[n]? = some a := by cases h; exact ⟨_, rfl, by assumption⟩
theorem rep_key {v : V} {d : D} {k : Key} (h : Rep G rho F v d) (e : keyD d = some k) : v = kV k := by
  cases keyD_eq e
  cases k <;> (cases h; rfl)
end
def dictAt (S : Sto) (d : D) : Option (List (Key × D)) := match d with
  | .ref n => match S[n]? with
    | some (.dict kvs) => some kvs
    | _ => none
  | _ => none
theorem dictAt_of {S : Sto} {d : D} {kvs : List (Key × D)} (h : dictAt S d = some kvs) : ∃ n, d = .ref n ∧ S[n]? = some (.dict kvs) := by
  unfold dictAt at h
  split at h
  · split at h
    · cases h; exact ⟨_, rfl, by assumption⟩
    · cases h
  · cases h
def dGetS (S : Sto) (d k : D) : Option D := match dictAt S d with
  | some kvs => match keyD k with
    | some x => valKD kvs x
    | none => none
  | none => none
theorem dGetS_of {S : Sto} {d k v : D} (h : dGetS S d k = some v) : ∃ n kvs x, d = .ref n ∧ S[n]? = some (.dict kvs) ∧ keyD k = some x ∧ valKD kvs x = some v := by
  unfold dGetS at h
  split at h
  · split at h
    · obtain ⟨n, h1, h2⟩ := dictAt_of (by assumption)
      exact ⟨n, _, _, h1, h2, by assumption, h⟩
    · cases h
  · cases h
def dPutS (S : Sto) (d k v : D) : Option Sto := match d with
  | .ref n => match S[n]? with
    | some (.dict kvs) => match keyD k with
      | some x => if kvs.length < sizeLine then some (S.set n (.dict (putKD kvs x v))) else none
      | none => none
    | _ => none
  | _ => none
theorem dPutS_of {S S' : Sto} {d k v : D} (h : dPutS S d k v = some S') : ∃ n kvs x, d = .ref n ∧ S[n]? = some (.dict kvs) ∧ keyD k = some x ∧ kvs.length < sizeLine ∧ S' = S.set n (.dict (putKD kvs x v)) := by
  unfold dPutS at h
  split at h
  · split at h
    · split at h
      · split at h
        · cases h; exact ⟨_, _, _, rfl, by assumption, by assumption, by assumption, rfl⟩
        · cases h
      · cases h
    · cases h
  · cases h
def bGet (md mk : Ex) : Ex := fun e S => (md e S).bind fun d e S => (mk e S).bind fun k e S => match dGetS S d k with
  | some v => .ok v e S
  | none => .stuck
def sPutD (md mk mv : Ex) : Sm := fun e S => (mv e S).bind fun v e S => (md e S).bind fun d e S => (mk e S).bind fun k e S => match dPutS S d k v with
  | some S' => .ok .next e S'
  | none => .stuck
section
variable {X : Cx} {W : WX} {ent : Ent} {Z : En} {N : List Str} {sc : Scope} {fs : Str → Bool} {k : Nat} {pos : Pos}
theorem R.dict {G : Gb} {e : Env} {S : Sto} {σ : L2.St} {H F : Hp} {rho : List Addr} (r : R G ent e S σ H F rho) {n : Nat} {a : Addr} {kvs : List (Key × D)} (h1 : S[n]? = some (.dict kvs)) (h2 : rho[n]? = some a) : ∃ vs, H a = some (.dK vs) ∧ KRel G rho F vs kvs := by
  obtain ⟨⟨vs, q1, q2, q3⟩, _⟩ := r.sto n _ a h1 h2
  exact ⟨vs, q1, q2, q3⟩
theorem sem_get {o i : Expr} {md mk : Ex} (hu : X.A.units + 1 < cLine) (ho : PE X o (rdE X.gb W ent md)) (hi : PE X i (rdE X.gb W ent mk)) (hs : NoSl i := by intro _ _; rfl) : PE X (.Subscript o i pos) (rdE X.gb W ent (bGet md mk)) :=
  (pe_dget hu ho hi hs).weak fun σ H Q ⟨e, S, F, rho, hR, hp⟩ => by
    refine ⟨e, S, F, rho, hR, ?_⟩
    unfold bGet at hp
    cases q : md e S with
    | ok d e1 S1 =>
      rw [q] at hp
      intro v H1 F1 rho1 r1 s1 p1 rep1
      refine ⟨e1, S1, F1, rho1, r1, ?_⟩
      replace hp : postE X.gb W ent σ F rho Q ((mk e1 S1).bind fun k e S => match dGetS S d k with
        | some v => .ok v e S
        | none => .stuck) := hp
      cases q2 : mk e1 S1 with
      | ok ky e2 S2 =>
        rw [q2] at hp
        intro y H2 F2 rho2 r2 s2 p2 rep2
        replace hp : postE X.gb W ent σ F rho Q (match dGetS S2 d ky with
          | some v => .ok v e2 S2
          | none => .stuck) := hp
        cases hd : dGetS S2 d ky with
        | none => rw [hd] at hp; exact hp.elim
        | some w =>
          rw [hd] at hp
          obtain ⟨n, kvs, x, rfl, hn, hk, hw⟩ := dGetS_of hd
          obtain ⟨a, rfl, ha⟩ := rep_ref rep1
          obtain ⟨vs, h1, h2⟩ := r2.dict hn (p2 _ _ ha)
          obtain ⟨v, hv, rv⟩ := h2.get hw
          refine ⟨a, v, rfl, ?_, hp v H2 F2 rho2 r2 (s1.trans s2) (p1.trans p2) rv⟩
          rw [← hv, rep_key rep2 hk]
          exact DGet.k h1
      | exc x e2 S2 => rw [q2] at hp; exact postX.mono s1 p1 hp
      | stuck => rw [q2] at hp; exact hp.elim
    | exc x e1 S1 => rw [q] at hp; exact hp
    | stuck => rw [q] at hp; exact hp
theorem semS_putD {o i value : Expr} {md mk mv : Ex} {pos' : Pos} (hu : X.A.units + 1 < cLine) (ho : PE X o (rdE X.gb W ent md)) (hi : PE X i (rdE X.gb W ent mk)) (hv : PE X value (rdE X.gb W ent mv))
    (hs : swapsWith value (some (.Subscript o i pos')) pos.line X.env = pure false) : PS X (.Assign [.Subscript o i pos'] value pos) (rdS X.gb W ent (sPutD md mk mv)) :=
  (ps_dput hu ho hi hv hs).weak fun Dn σ H ⟨e, S, F, rho, hR, hp⟩ => by
    refine ⟨e, S, F, rho, hR, ?_⟩
    unfold sPutD at hp
    cases q : mv e S with
    | ok dv e0 S0 =>
      rw [q] at hp
      intro v H0 F0 rho0 r0 s0 p0 rep0
      refine ⟨e0, S0, F0, rho0, r0, ?_⟩
      replace hp : postS X.gb W ent F rho Dn ((md e0 S0).bind fun d e S => (mk e S).bind fun k e S => match dPutS S d k dv with
        | some S' => .ok .next e S'
        | none => .stuck) := hp
      cases q1 : md e0 S0 with
      | ok d e1 S1 =>
        rw [q1] at hp
        intro w H1 F1 rho1 r1 s1 p1 rep1
        refine ⟨e1, S1, F1, rho1, r1, ?_⟩
        replace hp : postS X.gb W ent F rho Dn ((mk e1 S1).bind fun k e S => match dPutS S d k dv with
          | some S' => .ok .next e S'
          | none => .stuck) := hp
        cases q2 : mk e1 S1 with
        | ok ky e2 S2 =>
          rw [q2] at hp
          intro y H2 F2 rho2 r2 s2 p2 rep2
          replace hp : postS X.gb W ent F rho Dn (match dPutS S2 d ky dv with
            | some S' => .ok .next e2 S'
            | none => .stuck) := hp
          cases hd : dPutS S2 d ky dv with
          | none => rw [hd] at hp; exact hp.elim
          | some S' =>
            rw [hd] at hp
            obtain ⟨n, kvs, x, rfl, hn, hk, hz, rfl⟩ := dPutS_of hd
            obtain ⟨a, rfl, ha⟩ := rep_ref rep1
            obtain ⟨vs, h1, h2⟩ := r2.dict hn (p2 _ _ ha)
            have hl : vs.length = kvs.length := by have := congrArg List.length h2.keys; simpa using this
            have h3 := h2.put (k := x) (rep0.mono (s1.trans s2) (p1.trans p2))
            refine ⟨a, upd H2 a (.dK (putK vs x v)), rfl, ?_, ?_⟩
            · rw [rep_key rep2 hk]
              exact DPut.k h1 (by rw [hl]; exact hz)
            · exact hp σ _ F2 rho2 (r2.upSto hn (p2 _ _ ha) _ ⟨_, upd_same, h3.keys, h3.vals⟩) ((s0.trans s1).trans s2) ((p0.trans p1).trans p2)
        | exc x e2 S2 => rw [q2] at hp; exact postX.mono (s0.trans s1) (p0.trans p1) (hp σ)
        | stuck => rw [q2] at hp; exact hp.elim
      | exc x e2 S2 => rw [q1] at hp; exact postX.mono s0 p0 (hp σ)
      | stuck => rw [q1] at hp; exact hp.elim
    | exc x e1 S1 => rw [q] at hp; exact hp σ
    | stuck => rw [q] at hp; exact hp

/-! a display: a new dict of the store -/
def wDisp (ks : List Str) (ms : List Ex) : Wx := fun e S => (evX ms e S).bind fun ds e S => .ok (.val (.ref S.length)) e (S ++ [.dict (mergeKD [] ((ks.map Sum.inr).zip ds))])
def trsOf (G : Gb) (W : WX) (ent : Ent) (ks : List Str) (ms : List Ex) : List (TE × TE) := (ks.zip ms).map fun p => (tC (.str p.1), fun σ H Q => ∃ a o, rdE G W (ent.hold a o) p.2 σ H Q)
inductive PrE (X : Cx) (W : WX) (pos : Pos) (ent : Ent) : List (Option Expr) → List Expr → List Str → List Ex → Prop
  | nil : PrE X W pos ent [] [] [] []
  | cons {x : Str} {j : Nat} {p : Pos} {v : Expr} {ks : List (Option Expr)} {vs : List Expr} {xs : List Str} {m : Ex} {ms : List Ex} : (∀ ent, PE X v (rdE X.gb W ent m)) → PrE X W pos ent ks vs xs ms →
      PrE X W pos ent (some (.Constant (.str x) j p) :: ks) (v :: vs) (x :: xs) (m :: ms)
theorem PrE.pps : ∀ {ks : List (Option Expr)} {vs : List Expr} {xs : List Str} {ms : List Ex}, PrE X W pos ent ks vs xs ms → PPs X pos ks vs (trsOf X.gb W ent xs ms)
  | _, _, _, _, .nil => pps_nil
  | _, _, _, _, .cons h t => pps_cons pe_str ⟨fun pins s σ H Q I ⟨a, o, hq⟩ => (h _).run pins s σ H Q I hq⟩ (PrE.pps t)
theorem pairs_of {G : Gb} {p : Addr} {σ : L2.St} : ∀ {xs : List Str} {ms : List Ex} {e : Env} {S : Sto} {H F : Hp} {rho : List Addr} {K : List (V × V) → Hp → Prop}, xs.length = ms.length → R G (ent.hold p (.dK [])) e S σ H F rho →
    postXs G W (ent.hold p (.dK [])) σ F rho (fun vs H' => K ((xs.zip vs).map fun q => (.str q.1, q.2)) H') (evX ms e S) → tPairs (trsOf G W ent xs ms) σ H K
  | [], [], e, S, H, F, rho, K, _, hR, hp => hp [] H F rho hR (Sub.refl _) (Pre.refl _) .nil
  | x :: xs, m :: ms, e, S, H, F, rho, K, hl, hR, hp => by
    unfold evX at hp
    refine ⟨p, .dK [], e, S, F, rho, hR, ?_⟩
    show postE G W (ent.hold p (.dK [])) σ F rho (fun y H2 => tPairs (trsOf G W ent xs ms) σ H2 fun ps H3 => K ((.str x, y) :: ps) H3) (m e S)
    cases q : m e S with
    | ok d e1 S1 =>
      rw [q] at hp
      intro v H1 F1 rho1 hR1 s1 p1 r1
      refine pairs_of (by simpa using hl) hR1 ?_
      replace hp : postXs G W (ent.hold p (.dK [])) σ F rho (fun vs H' => K (((x :: xs).zip vs).map fun q => (.str q.1, q.2)) H') ((evX ms e1 S1).bind fun ds e S => .ok (d :: ds) e S) := hp
      cases q2 : evX ms e1 S1 with
      | ok ws e2 S2 =>
        rw [q2] at hp
        intro vs H2 F2 rho2 hR2 s2 p2 hr
        exact hp (v :: vs) H2 F2 rho2 hR2 (s1.trans s2) (p1.trans p2) (.cons (r1.mono s2 p2) hr)
      | exc x e2 S2 => rw [q2] at hp; exact postX.mono s1 p1 hp
      | stuck => rw [q2] at hp; exact hp
    | exc x e1 S1 => rw [q] at hp; exact hp
    | stuck => rw [q] at hp; exact hp
  | [], _ :: _, _, _, _, _, _, _, h, _, _ => by simp at h
  | _ :: _, [], _, _, _, _, _, _, h, _, _ => by simp at h
theorem krel_zip {G : Gb} {rho : List Addr} {F : Hp} : ∀ {xs : List Str} {vs : List V} {ds : List D}, RepL G rho F vs ds → KRel G rho F ((xs.map Sum.inr).zip vs) ((xs.map Sum.inr).zip ds)
  | [], _, _, _ => .nil
  | x :: xs, [], _, .nil => .nil
  | x :: xs, _ :: _, _, .cons r l => .cons r (krel_zip l)
theorem semW_disp {keys : List (Option Expr)} {values : List Expr} {ks : List Str} {ms : List Ex} (h : PrE X W pos ent keys values ks ms) (hall : keys.all (·.isSome) = true) (hl : keys.length = values.length) (h0 : keys ≠ []) (h15 : keys.length ≤ 15) (hk : ks.length = ms.length) (hk15 : ks.length ≤ 15) :
    PE X (.Dict keys values pos) (rdW X.gb W ent (wDisp ks ms)) :=
  (pe_disp h.pps hall hl h0 h15).weak fun σ H Q ⟨e, S, F, rho, hR, hp⟩ => by
    intro p hpn
    have hfp : F p = none := by
      cases z : F p with
      | none => rfl
      | some o => rw [hR.sub p o z] at hpn; cases hpn
    have hrp : p ∉ rho := fun z => (hR.rhoSome z).1 hpn
    have hns : NoSlot e σ p := fun i t hi ht z => by
      obtain ⟨a, q1, q2, _⟩ := hR.own i t hi ht
      rw [q1] at z; cases z
      exact q2.isob hpn
    have hR1 := (hR.lay (o := .dK []) hpn).held (o := .dK []) upd_same hfp hrp hns
    refine pairs_of hk hR1 ?_
    unfold wDisp at hp
    cases q : evX ms e S with
    | ok ds e1 S1 =>
      rw [q] at hp
      intro vs H' F' rho' r s pr l
      obtain ⟨k1, k2, k3⟩ := r.keep p (.dK []) (.inr ⟨rfl, rfl⟩)
      refine ⟨k1, (ks.map Sum.inr).zip vs, ?_, by rw [List.length_zip, List.length_map]; omega, ?_⟩
      · rw [List.zip_map_left, List.map_map]
        exact List.map_congr_left fun _ _ => rfl
      · have r2 := r.less (ent' := ent) (fun a o z => Or.inl z) rfl rfl
        have hns2 : NoSlot e1 σ p := fun i t hi ht z => by
          obtain ⟨a, q1, _, _, q4, _⟩ := r.own i t hi ht
          rw [q1] at z; cases z
          exact q4 _ (.inr ⟨rfl, rfl⟩)
        have hm := (krel_zip (xs := ks) l).merge (vs := []) (ds := []) .nil
        have hm2 := hm.mono (Sub.refl F') (Pre.snoc rho' p)
        have r3 := r2.newS (o := .dK (mergeK [] ((ks.map Sum.inr).zip vs))) k2 k3 (hR.fresh hpn) hns2 (.dict (mergeKD [] ((ks.map Sum.inr).zip ds))) ⟨_, upd_same, hm2.keys, hm2.vals⟩
        refine hp (.ref p) _ F' (rho' ++ [p]) r3 s (pr.trans (Pre.snoc rho' p)) (show Rep _ _ _ _ _ from .ref ?_)
        rw [r.slen, List.getElem?_append_right (Nat.le_refl _), Nat.sub_self]
        rfl
    | exc x e1 S1 => rw [q] at hp; exact postX.less (ent := ent) (fun a o z => Or.inl z) rfl rfl hp
    | stuck => rw [q] at hp; exact hp
end
end TM
namespace TM
open PySem PySem.Spec L2
open PyProof.Rows hiding St

/-! enumerate of a tuple -/
set_option maxHeartbeats 4000000 in
theorem meets_enum1B {v : Value} {o : Obj} {H : Heap → Prop} (B : Begins v o H) :
    Meets (Builtin.«enumerate.__new__» ⟨[.type "enumerate", v], []⟩) (fun _ R s => H s.heap ∧
      R (.ok (.ret (.ref (s.heap.push o).objs.size))) { s with heap := (s.heap.push o).push { cls := .type "enumerate", data := .fields #[.none, .bool false, .ref s.heap.objs.size, rawInt 0, .none, .none] } }) :=
  .of_wp fun prog w A R s h => by
    obtain ⟨hp, g, d, tk, os⟩ := s; obtain ⟨h1, h⟩ := h
    have hsub := sub_enumerate
    have q1 : ∀ {A' : Around} {E : Value → Shared → Prop} {Q : Value → Shared → Prop}, Q (.ref hp.objs.size) ⟨hp.push o, g, d, tk, os⟩ → wpAny (model prog w) A' (pyIter v) Q E ⟨hp, g, d, tk, os⟩ :=
      fun q => B.iter prog w _ _ ⟨hp, g, d, tk, os⟩ _ h1 q
    wp_walk using q1
    refine wpAny_stack_any fun st => wpAny_pure ?_
    split
    · rename_i c _ _ _ _ _
      cases (c == Value.type "enumerate")
      · wp_walk using q1
        exact ⟨_, rfl, h⟩
      · wp_walk using q1
        exact ⟨_, rfl, h⟩
    · wp_walk using q1
      exact ⟨_, rfl, h⟩
theorem enum1_begins {prog : Program} {w : World} {A : Around} {E : Value → Shared → Prop} {s : Shared} {v : Value} {o : Obj} {H : Heap → Prop} {Q : Value → Shared → Prop} (B : Begins v o H) (h1 : H s.heap)
    (h : ∀ h', IsEnum h' (s.heap.objs.size + 1) s.heap.objs.size 0 .none → h'.get? s.heap.objs.size = some o → h'.objs.size = s.heap.objs.size + 2 →
      (∀ b o, s.heap.get? b = some o → h'.get? b = some o) → Q (.ref (s.heap.objs.size + 1)) { s with heap := h' }) :
    wpAny (model prog w) A (call (.type "enumerate") [v]) Q E s := by
  refine callType_new F.called_enumerate (by decide) (F.typeCall_enumerate_1 _) (F.newCall_enumerate_1 _) (fun obj => F.args_object_init_2 obj _) F.entry_enumerate_new
    (meets_enum1B B) ⟨h1, ?_⟩
  have hz : (s.heap.push o).objs.size = s.heap.objs.size + 1 := Heap.size_push ..
  show _ ∧ _
  rw [hz]
  have he : IsEnum ((s.heap.push o).push { cls := .type "enumerate", data := .fields #[.none, .bool false, .ref s.heap.objs.size, rawInt 0, .none, .none] }) (s.heap.objs.size + 1) s.heap.objs.size 0 .none := by
    have := Heap.get?_push_size (s.heap.push o) (o := { cls := .type "enumerate", data := .fields #[.none, .bool false, .ref s.heap.objs.size, rawInt 0, .none, .none] }) rfl
    rw [hz] at this; exact this
  refine ⟨⟨_, he, rfl⟩, h _ he (Heap.get?_push_of_some _ (Heap.get?_push_size _ B.free)) (by rw [Heap.size_push, hz]) fun b o x => Heap.get?_push_of_some _ (Heap.get?_push_of_some _ x)⟩
/-- the tuple at a, each item in a new pair -/
def IteT (K : PySem.W.Frag) (a : Addr) (xs : List V) : It :=
  ⟨fun i H => SqT K H a xs ∧ i < xs.length, fun i H v H' => ∃ T x, v = .ref T ∧ H T = none ∧ H' = upd H T (.tup [.int (i : Nat), x]) ∧ xs[i]? = some x, fun i H => SqT K H a xs ∧ xs.length = i⟩
theorem turn_enumT {P : Program} {w : World} {K : PySem.W.Frag} {elts : List Expr} {kk : Nat} {tpos : Pos} (a e it : Addr) (xs : List V) :
    L2.Turn P w K (.Tuple elts kk tpos) (IteT K a xs) [e, it] e (fun i h => (∃ old, IsEnum h e it ((i : Nat) : Int) old) ∧ h.IsTupleIter it a i ∧ e ≠ it ∧ e ≠ a ∧ a ≠ it) where
  mem := by simp
  obj := fun i h st b hb => by
    obtain ⟨⟨old, he⟩, ⟨o, ho, hc, hd⟩, _⟩ := st
    have e' : b = e ∨ b = it := by simpa using hb
    rcases e' with z | z
    · rw [z]; exact ⟨_, he, fun v q => nomatch q⟩
    · rw [z]; exact ⟨o, ho, fun v q => by rw [hd] at q; cases q⟩
  keep := fun i h h' st k => let ⟨⟨old, he⟩, hi, hne⟩ := st; ⟨⟨old, k e (by simp) _ he⟩, hi.at fun o q => k it (by simp) o q, hne⟩
  item := by
    intro X hP hw hK hc i pins s σ H E I hf st hg
    subst hP hw hK
    obtain ⟨⟨old, he⟩, hit, hne, hea, hai⟩ := st
    obtain ⟨hq, hlt⟩ := hg
    obtain ⟨x, hx⟩ : ∃ x, xs[i]? = some x := ⟨xs[i], by simp [hlt]⟩
    obtain ⟨its, rv, p, hz⟩ := I.tuple hq
    obtain ⟨u, hu, ru⟩ := rv.get hx
    have hel : e < s.heap.objs.size := Heap.lt_size he
    have hil : it < s.heap.objs.size := by obtain ⟨_, q, _⟩ := hit; exact Heap.lt_size q
    have hil2 : i < its.toArray.size := by
      rw [List.size_toArray]; exact (List.getElem?_eq_some_iff.mp hu).1
    refine wpAny_pyNext_enum_itemD (Draws.tuple (A := X.A.in1) (I.ok.hd hc) it a hai its.toArray) he ⟨hit, p⟩ hil2 hne (fun hm => ?_) fun y h' tk hy ho hit' hT hsz hk => ?_
    · simp at hm
      rcases hm with z | z
      · exact hne z
      · exact hea z
    · have hyu : y = u := by
        have : its.toArray[i]? = some u := by simpa using hu
        rw [this] at hy; cases hy; rfl
      subst hyu
      refine ⟨_, rfl, wpAny_letOwnedTupleGo_enum (s := { s with heap := h', toks := tk + 1 }) ho fun h'' he' sb => ?_⟩
      have hT2 : h''.get? s.heap.objs.size = some { cls := .type "tuple", data := .seq #[.int i tk, y] } := (sb.2 _ (Nat.ne_of_gt hel)).trans hT
      have new : ObjOk X.prog X.w (upd H s.heap.objs.size (.tup [.int (i : Nat), x])) h'' s.heap.objs.size (.tup [.int (i : Nat), x]) :=
        ⟨by show 2 ≤ sizeLine; decide, [.int i tk, y], .cons ⟨_, rfl⟩ (.cons ru .nil), ⟨_, hT2, rfl, _, rfl⟩⟩
      have I1 : Inv X pins σ (upd H s.heap.objs.size (.tup [.int (i : Nat), x])) { s with heap := h'', toks := tk + 1 } :=
        I.turnedNew (ch := [e, it]) (fun b ob hb q => (sb.2 b (fun z => hb (by simp [z]))).trans (hk b ob (fun z => hb (by simp [z])) (fun z => hb (by simp [z])) q)) hf (Nat.le_refl _) new
      refine ⟨.ref s.heap.objs.size, _, I1, rfl, ⟨_, x, rfl, I.hok.fresh (Nat.le_refl _), rfl, hx⟩, ⟨⟨y, ?_⟩, hit'.1.at fun o q => (sb.2 it (Ne.symm hne)).trans q, hne, hea, hai⟩, fun b hb => ?_⟩
      · have e1 : ((i + 1 : Nat) : Int) = (i : Int) + 1 := by omega
        rw [e1]; exact he'
      · have hb' : b < s.heap.objs.size := by
          have e' : b = e ∨ b = it := by simpa using hb
          rcases e' with z | z
          · rw [z]; exact hel
          · rw [z]; exact hil
        rw [upd_ne (Nat.ne_of_lt hb')]
        exact (hf b hb).1
  done := by
    intro X hP hw hK hc i pins s σ H E I hf st hg
    subst hP hw hK
    obtain ⟨⟨old, he⟩, hit, hne, hea, hai⟩ := st
    obtain ⟨hq, hx⟩ := hg
    obtain ⟨its, rv, p, hz⟩ := I.tuple hq
    obtain ⟨f0, f1, f2, f3, f4, f5⟩ := hf it (by simp)
    have hl : its.toArray.size = i := by rw [List.size_toArray, ← rv.length]; exact hx
    subst hl
    exact wpAny_pyNext_enum_endD (Draws.tuple (A := X.A.in1) (I.ok.hd hc) it a hai its.toArray) he ⟨hit, p⟩ fun h' eb => ⟨rfl, I.turned (t' := s.toks) (fun b o hb q => eb b o hb q) f0 f1 f3 f4 f5⟩
  self := fun A i s Q E st h => let ⟨⟨_, he⟩, _⟩ := st; wpAny_pyIter_enum he h
def iEnumT (K : PySem.W.Frag) (ta : TA) : TI := fun σ H R => ta σ H fun vs H1 => ∃ a xs, vs = [.ref a] ∧ SqT K H1 a xs ∧ R (IteT K a xs) H1
theorem pi_enumT {X : Cx} {e : Expr} {ta : TA} {p pos tpos : Pos} {elts : List Expr} {kk : Nat} (hg : Gl X "enumerate") (hm : X.mg "enumerate" = none) (ha : PA X [e] ta) (hs : starEach [e] X.env = [(false, eval e X.env)]) :
    PI X (.Tuple elts kk tpos) (.Call (.Name "enumerate" p) [e] [] pos) (iEnumT X.K ta) := by
  refine ⟨fun pins s σ H R I h => ?_⟩
  refine Call_ (ld_blt I hg hm boot_enumerate (PyProof.Rows.callWith_type1 (thn (ha.run pos pins s σ H _ I h) fun us s1 ⟨vs, H1, I1, r1, q1⟩ => ?_) hs rfl))
  obtain ⟨a, xs, ex, hq, q⟩ := q1
  subst ex
  cases r1 with
  | cons r rr =>
    cases rr
    cases r
    obtain ⟨its, rv, p', hz⟩ := I1.tuple hq
    have hlt : a < s1.heap.objs.size := by obtain ⟨_, q, _⟩ := p'; exact Heap.lt_size q
    refine enum1_begins (begins_tuple a its.toArray) p' fun h' he hit hsz hk => wpAny_pyIter_enum he ?_
    have I2 : Inv X pins σ H1 { s1 with heap := h' } := I1.kept (t' := s1.toks) hk
    refine ⟨s1.heap.objs.size + 1, [s1.heap.objs.size + 1, s1.heap.objs.size], _, _, H1, rfl, I2, turn_enumT a (s1.heap.objs.size + 1) s1.heap.objs.size xs, ⟨⟨.none, he⟩, ⟨_, hit, rfl, rfl⟩, Nat.succ_ne_self _, Nat.ne_of_gt (Nat.lt_succ_of_lt hlt), Nat.ne_of_lt hlt⟩, fun b hb => ?_, q⟩
    have e' : b = s1.heap.objs.size + 1 ∨ b = s1.heap.objs.size := by simpa using hb
    have hle : s1.heap.objs.size ≤ b := by
      rcases e' with z | z
      · rw [z]; exact Nat.le_add_right _ _
      · rw [z]; exact Nat.le_refl _
    exact I1.fpOk hle (I1.hok.fresh hle)
def enumD (n : Nat) : List D → List D
  | [] => []
  | d :: ds => .tup [.int (n : Nat), d] :: enumD (n + 1) ds
theorem enumD_length : ∀ (n : Nat) (ds : List D), (enumD n ds).length = ds.length
  | _, [] => rfl
  | n, d :: ds => congrArg (· + 1) (enumD_length (n + 1) ds)
theorem enumD_get : ∀ (n : Nat) (ds : List D) (i : Nat), (enumD n ds)[i]? = (ds[i]?).map fun d => .tup [.int ((n + i : Nat) : Int), d]
  | _, [], i => by simp [enumD]
  | n, d :: ds, 0 => by simp [enumD]
  | n, d :: ds, i + 1 => by
    have := enumD_get (n + 1) ds i
    simp only [enumD, List.getElem?_cons_succ, this]
    congr 2
    funext x
    rw [show n + 1 + i = n + (i + 1) by omega]
theorem walkD_enumT {G : Gb} {rho : List Addr} {F : Hp} {a : Addr} {xs : List V} {ds : List D} (h : SqT G.K F a xs) (z : xs.length ≤ sizeLine) (l : RepL G rho F xs ds) : WalkD G rho F (IteT G.K a xs) (enumD 0 ds) := by
  have w : Walk (IteT G.K a xs) (enumD 0 ds).length (fun H => Sub F H) (fun i H x H' => ∃ T v, x = .ref T ∧ H T = none ∧ H' = upd H T (.tup [.int (i : Nat), v]) ∧ xs[i]? = some v) := by
    rw [enumD_length, ← l.length]
    exact ⟨fun i H hi s => ⟨sqT_mono s h, hi⟩, fun H s => ⟨sqT_mono s h, rfl⟩, fun i H x H' hi s y => y⟩
  refine ⟨by rw [enumD_length, ← l.length]; exact z, _, _, w, fun H s => s, fun i H x H' d rho' F' hd p s s2 y => ?_⟩
  obtain ⟨T, v, rfl, hT, rfl, hv⟩ := y
  rw [enumD_get, Nat.zero_add] at hd
  obtain ⟨d0, hd0, rfl⟩ := Option.map_eq_some_iff.mp hd
  obtain ⟨v', hv', r⟩ := l.get hd0
  rw [hv] at hv'; cases hv'
  have g := Grow.alloc (o := .tup [.int (i : Nat), v]) s2 hT
  refine ⟨_, g, .tup (.of upd_same) (fun _ => upd_same) (by show 2 ≤ sizeLine; decide) (.cons (.int _) (.cons (r.mono (s.trans (g.sub s2)) p) .nil))⟩
/-- enumerate(a tuple) -/
def fEnumT : List D → Option (List D)
  | [.tup ds] => some (enumD 0 ds)
  | _ => none
section
variable {X : Cx} {W : WX} {ent : Ent} {Z : En} {N : List Str} {sc : Scope} {fs : Str → Bool} {k : Nat} {pos p tpos : Pos}
theorem semI_enumT {e : Expr} {o : Opr} {elts : List Expr} {kk : Nat} (c : Bx Z N sc fs k X W) (hg : gOk sc "enumerate" = true) (hm : Z.mg "enumerate" = none) (ha : OpE X W ent e o) (hp : plainA e = true := by rfl) :
    PI X (.Tuple elts kk tpos) (.Call (.Name "enumerate" p) [e] [] pos) (rdI X.gb W ent (iRange fEnumT [o])) :=
  (pi_enumT (Gl.of c hg) (by rw [c.hm]; exact hm) (pa_ops (opc ha opn hp)) (star_plain hp [] _)).weak fun σ H Rc ⟨e, S, F, rho, hR, hp⟩ => by
    refine tOs_R hR ?_
    unfold iRange at hp
    cases q : evR [o] e S with
    | ok ds e1 S1 =>
      rw [q] at hp
      intro vs H' F' rho' r s p kk
      replace hp : postI X.gb W ent σ F rho Rc (match fEnumT ds with
        | some es => .ok es e1 S1
        | none => .stuck) := hp
      cases hf : fEnumT ds with
      | none => rw [hf] at hp; exact hp.elim
      | some es =>
        rw [hf] at hp
        unfold fEnumT at hf
        split at hf
        · cases hf
          obtain ⟨v, rfl, h1⟩ := repBL1 kk
          rcases h1 with h1 | ⟨a, t, rfl, ho, et⟩
          · cases h1 with
            | @tup a xs _ t1 t3 z l => exact ⟨a, xs, rfl, sqT_mono r.sub t1, hp _ H' F' rho' r s p (walkD_enumT t1 z l)⟩
          · cases t <;> first | exact ho.elim | cases et
        · cases hf
    | exc x e1 S1 => rw [q] at hp; exact hp
    | stuck => rw [q] at hp; exact hp.elim
end

/-! t[::-1] of a tuple -/
theorem adjust_rev (n : Nat) : Builtin.Slice.sliceAdjust none none (-1) (n : Int) = ((n : Int) - 1, -1) := by
  unfold Builtin.Slice.sliceAdjust
  simp
theorem places_rev (n : Nat) : Builtin.Slice.slicePlaces ((n : Int) - 1) (-1) (-1) = n := by
  unfold Builtin.Slice.slicePlaces
  simp
  omega
theorem fm_congr {α β : Type} {f g : α → Option β} : ∀ {l : List α}, (∀ a ∈ l, f a = g a) → l.filterMap f = l.filterMap g
  | [], _ => rfl
  | a :: l, h => by
    rw [List.filterMap_cons, List.filterMap_cons, h a List.mem_cons_self, fm_congr fun b hb => h b (List.mem_cons_of_mem _ hb)]
theorem pick_rev (xs : Array Value) : ((List.range xs.size).filterMap fun (m : Nat) => xs[(((xs.size : Int) - 1) + (m : Int) * (-1)).toNat]?).toArray = xs.toList.reverse.toArray := by
  have e : ((List.range xs.size).filterMap fun (m : Nat) => xs[(((xs.size : Int) - 1) + (m : Int) * (-1)).toNat]?) = ((List.range xs.size).map (fun k => xs.size - 1 - k)).filterMap (xs[·]?) := by
    rw [List.filterMap_map]
    apply fm_congr
    intro m hm
    have := List.mem_range.mp hm
    have e : (((xs.size : Int) - 1) + (m : Int) * (-1)).toNat = xs.size - 1 - m := by omega
    rw [e]; rfl
  rw [e, PySem.W.krv_range, List.filterMap_reverse, PySem.W.krv_all]
section
variable {prog : Program} {w : World} {A : Around} {E : Value → Shared → Prop} {s : Shared}
theorem sliceApplied_rev {sl : Addr} {vl vu vs : Value} {n : Nat} {Q : Int × Int × Nat → Shared → Prop} (hs : s.heap.IsSliceOf sl vl vu vs) (pl : IsPart vl none) (pu : IsPart vu none) (ps : IsPart vs (some (-1)))
    (h : Q ((n : Int) - 1, -1, n) s) : wpAny (model prog w) A (Builtin.Slice.sliceApplied (.ref sl) (pure (n : Int))) Q E s := by
  obtain ⟨os, hos, hcs, hds⟩ := id hs
  unfold Builtin.Slice.sliceApplied Builtin.Slice.sliceFields
  refine wpAny_bind (wpAny_bind (wpAny_field hos hds (x := vl) rfl (wpAny_bind (wpAny_field hos hds (x := vu) rfl (wpAny_bind (wpAny_field hos hds (x := vs) rfl (wpAny_pure ?_)))))))
  refine wpAny_bind (HT.slicePart_ ps ?_)
  show wpAny _ _ (if ((-1 : Int) == 0) = true then _ else _) _ _ s
  rw [if_neg (by decide)]
  refine wpAny_bind (HT.slicePart_ pl (wpAny_bind (HT.slicePart_ pu (wpAny_bind (wpAny_pure ?_)))))
  show wpAny _ _ (match Builtin.Slice.sliceAdjust none none (-1) (n : Int) with | (lo, hi) => pure (lo, (-1 : Int), Builtin.Slice.slicePlaces lo hi (-1))) _ _ s
  rw [adjust_rev n]
  show wpAny _ _ (pure ((n : Int) - 1, (-1 : Int), Builtin.Slice.slicePlaces ((n : Int) - 1) (-1) (-1))) _ _ s
  rw [places_rev]
  exact wpAny_pure h
theorem getItem_tuple_rev {t sl : Addr} {items : Array Value} {vl vu vs : Value} {Q : Value → Shared → Prop} (ht : IsTup s.heap t items) (hs : s.heap.IsSliceOf sl vl vu vs) (pl : IsPart vl none) (pu : IsPart vu none) (ps : IsPart vs (some (-1)))
    (h : Q (.ref s.heap.objs.size) { s with heap := s.heap.push { cls := .type "tuple", data := .seq items.toList.reverse.toArray } })
    (hsz : items.size ≤ sizeLine) : wpAny (model prog w) A (getItem (.ref t) (.ref sl)) Q E s := by
  have htake : sizeOk (.seq items.toList.reverse.toArray) := by
    show items.toList.reverse.toArray.size ≤ sizeLine
    rw [List.size_toArray, List.length_reverse, Array.length_toList]
    exact hsz
  obtain ⟨os, hos, hcs, hds⟩ := id hs
  have hTs : s.TypeIs (.ref sl) "slice" := ⟨os, hos, hcs⟩
  unfold getItem
  try with_reducible refine wpAny_holding ?_
  first | refine wpAny_bind (wpAny_pure ?_) | skip
  refine wpAny_bind (wpAny_sequenceKey ht.typeIs (by decide) ?_)
  refine wpAny_bind (wpAny_callSpecial?_slot (name := Str.ofString "__getitem__") ht.typeIs PyProof.Rows.slot_tuple_getitem
    (wpAny_call_entry PyProof.Rows.slot_tuple_getitem ht.typeIs entry_tuple_getitem ?_ (args_tuple_getitem _ _)))
  show wpAny _ _ (Builtin.Tuple.tupleItemsOf (.ref t) >>= _) _ _ s
  refine wpAny_bind (tupleItemsOf_ ht ?_)
  refine wpAny_bind (wpAny_typeOf hTs ?_)
  rw [if_pos (by decide)]
  refine wpAny_bind (sliceApplied_rev hs pl pu ps ?_)
  have hno : ¬ ((((items.size : Int) - 1) == 0 && (-1 : Int) == 1 && items.size == items.size) = true) := by simp
  show wpAny _ _ (if (((items.size : Int) - 1) == 0 && (-1 : Int) == 1 && items.size == items.size) = true then _ else _) _ _ s
  rw [if_neg hno, pick_rev]
  first
    | exact wpAny_bind (m := Builtin.Tuple.tupleExact _) (wpAny_newObj_type (wpAny_pure ⟨_, rfl, wpAny_pure h⟩) htake)
    | exact wpAny_bind (m := Builtin.Tuple.tupleExact _) (wpAny_newObj_type (wpAny_bind (wpAny_pure (wpAny_pure ⟨_, rfl, wpAny_pure h⟩))) htake)
    | exact wpAny_bind (wpAny_bind (m := Builtin.Tuple.tupleExact _) (wpAny_newObj_type (wpAny_pure (wpAny_pure ⟨_, rfl, wpAny_pure h⟩)) htake))
    | exact wpAny_bind (wpAny_bind (m := Builtin.Tuple.tupleExact _) (wpAny_newObj_type (wpAny_pure ⟨_, rfl, wpAny_pure h⟩) htake))
end
def rRevA (K : PySem.W.Frag) : V → Hp → VK → Prop := fun x H1 Q => (∃ a xs, x = .ref a ∧ SqT K H1 a xs ∧ ∀ p, H1 p = none → Q (.ref p) (upd H1 p (.tup xs.reverse))) ∨ ∃ a xs, x = .ref a ∧ SqL K H1 a xs ∧ ∀ p, H1 p = none → Q (.ref p) (upd H1 p (.lst xs.reverse))
section
variable {X : Cx} {W : WX} {ent : Ent}
theorem pe_revT {e : Expr} {te : TE} {k : Nat} {p1 p2 p3 pos : Pos} (he : PE X e te) : PE X (.Subscript e (.Slice none none (some (.UnaryOp .USub (.Constant (.int 1) k p1) p2)) p3) pos) (fun σ H Q => te σ H fun x H1 => rRevA X.K x H1 Q) := by
  refine ⟨fun pins s σ H Q I h => ?_⟩
  refine Subscript_ (thn (he.run pins s σ H _ I h) fun v s1 ⟨x, H1, I1, r1, q1⟩ => ?_)
  have hst : PO X (some (.UnaryOp .USub (.Constant (.int 1) k p1) p2)) (tPart (tUn (rU fun i => .int (-i)) (tC (.int 1)))) := po_some (pe_un un_neg pe_int)
  refine wpAny_Slice (thn (po_none.run pins s1 σ H1 (fun o H2 => o = none ∧ H2 = H1) I1 ⟨rfl, rfl⟩) fun vl s2 ⟨l, H2, I2, pl, el, e2⟩ => ?_)
  subst el e2
  refine thn (po_none.run pins s2 σ H2 (fun o H3 => o = none ∧ H3 = H2) I2 ⟨rfl, rfl⟩) fun vu s3 ⟨u, H3, I3, pu, eu, e3⟩ => ?_
  subst eu e3
  refine thn (hst.run pins s3 σ H3 (fun o H4 => o = some (-1) ∧ H4 = H3) I3 ⟨1, rfl, -1, rfl, rfl, rfl⟩) fun vs s4 ⟨o, H4, I4, ps, eo, e4⟩ => ?_
  subst eo e4
  have I5 : Inv X pins σ H4 { s4 with heap := s4.heap.push { cls := .type "slice", data := .fields #[vl, vu, vs] } } := I4.kept (t' := s4.toks) fun b ob q => Heap.get?_push_of_some _ q
  rcases q1 with ⟨a, xs, ex, hx, q⟩ | ⟨a, xs, ex, hx, q⟩
  · subst ex
    cases r1
    obtain ⟨its, r, ht, hz⟩ := I5.tuple hx
    show wpAny (model X.prog X.w) X.A (subscriptTail e (.Slice none none (some (.UnaryOp .USub (.Constant (.int 1) k p1) p2)) p3) (.ref a) (.ref s4.heap.objs.size)) (EP X pins σ Q) X.xe { s4 with heap := s4.heap.push { cls := .type "slice", data := .fields #[vl, vu, vs] } }
    refine tail_any (ops := [.ref a, .ref s4.heap.objs.size]) ht.typeIs (PyProof.Rows.slot_tuple_getitem.lookup) ?_ (by with_unfolding_all rfl)
    refine getItem_tuple_rev ht (Heap.IsSliceOf.new _ vl vu vs) pl pu ps ?_ (by rw [List.size_toArray, ← r.length]; exact hz)
    refine ⟨.ref _, _, I5.laid (t' := s4.toks) (o := .tup xs.reverse) (fun b ob q => Heap.get?_push_of_some _ q) (Nat.le_refl _) ?_, rfl, q _ (I5.hok.fresh (Nat.le_refl _))⟩
    exact ⟨by rw [List.length_reverse]; exact hz, _, r.reverse, IsTup.new _ _⟩
  · subst ex
    cases r1
    obtain ⟨its, r, ht, hz⟩ := I5.list hx
    have hlen := r.length
    show wpAny (model X.prog X.w) X.A (subscriptTail e (.Slice none none (some (.UnaryOp .USub (.Constant (.int 1) k p1) p2)) p3) (.ref a) (.ref s4.heap.objs.size)) (EP X pins σ Q) X.xe { s4 with heap := s4.heap.push { cls := .type "slice", data := .fields #[vl, vu, vs] } }
    refine tail_any (ops := [.ref a, .ref s4.heap.objs.size]) ht.isList.typeIs (PySem.slot_list_getitem.lookup) ?_ (by with_unfolding_all rfl)
    refine wpAny_getItem_list_slice ht.isList (Heap.IsSliceOf.new _ vl vu vs) pl pu ps (by decide) ?_ (by rw [List.size_toArray]; omega)
    rw [PySem.W.krv_pick]
    refine ⟨.ref _, _, I5.laid (t' := s4.toks) (o := .lst xs.reverse) (fun b ob q => Heap.get?_push_of_some _ q) (Nat.le_refl _) ?_, rfl, q _ (I5.hok.fresh (Nat.le_refl _))⟩
    exact ⟨by rw [List.length_reverse]; exact hz, _, 0, r.reverse, Heap.get?_push_size _ rfl⟩
def fRev : PF
  | [.tup ds] => some (.tup ds.reverse)
  | [.lst ds] => some (.lst ds.reverse)
  | _ => none
theorem fr_rev {G : Gb} : PrimFr G (rL1 (rRevA G.K)) fRev := by
  intro rho F H vs ds d Q s hr hf q
  unfold fRev at hf
  split at hf
  · cases hf
    obtain ⟨v, rfl, h1⟩ := repBL1 hr
    obtain ⟨a, xs, rfl, t, z, l⟩ := repB_tup s h1
    refine .inl ⟨a, xs, rfl, t, fun p hp => ?_⟩
    have g := Grow.alloc (o := .tup xs.reverse) s hp
    exact q _ _ _ g (.tup (.of upd_same) (fun _ => upd_same) (by rw [List.length_reverse]; exact z) (l.reverse.mono (g.sub s) (Pre.refl _)))
  · cases hf
    obtain ⟨v, rfl, h1⟩ := repBL1 hr
    obtain ⟨a, xs, rfl, t, z, l⟩ := repB_lst s h1
    exact .inr ⟨a, xs, rfl, t, fun p hp => q p _ H F (Grow.refl s) hp (by rw [List.length_reverse]; exact z) l.reverse⟩
  · cases hf
theorem sem_rev {e : Expr} {o : Opr} {k : Nat} {p1 p2 p3 pos : Pos} (ho : OpE X W ent e o) : PE X (.Subscript e (.Slice none none (some (.UnaryOp .USub (.Constant (.int 1) k p1) p2)) p3) pos) (rdE X.gb W ent (bPrim fRev [o])) :=
  (pe_revT ho).weak fun σ H Q h => prim_of fr_rev.ok h
end
end TM
namespace TM
open PySem PySem.Spec L2
open PyProof.Rows hiding St

/-! a def from its text -/
section
variable {P : Program} {w : World} {K : PySem.W.Frag} {mg : Str → Option Value} {base : Heap} {k : Nat}
theorem FnAt.mono {j : Nat} {x : Str} {i : FnI} (h : FnAt P w K mg base j x i) (hk : j ≤ k) : FnAt P w K mg base k x i := by
  obtain ⟨f, fd, dvs, dus, h1, h2, h3, h4⟩ := h.ex
  exact ⟨f, fd, dvs, dus, h1, h2, h3.mono hk, h4⟩
/-- the context of a def's text, as the promise gives it -/
theorem Dx.mk' {Z : En} {N : List Str} {sc : Scope} {X : Cx} {W : WX} (hN : X.N = N) (hs : X.env.scope = sc) (g : Gf X k) (t : Takes X W) (h1 : X.prog = Z.P) (h2 : X.w = Z.w) (h3 : X.K = Z.K) (h4 : X.mg = Z.mg) (h5 : X.base = Z.base) : Dx Z N sc k X W := ⟨⟨g.toGd, hN, hs, funext g.fn, t, h1, h2, h3, h4, h5⟩, g.po⟩
theorem fnG_fun {x qual : Str} {st : Stmt} {f : Addr} {fd : FuncData} {N ps : List Str} {m : Sm} (F : L2.Fun K x qual st f fd) (S : FnScope N ps (defScope st))
    (hb : ∀ (X : Cx) (W : WX) (ent : Ent), Dx ⟨P, w, K, mg, base⟩ N (defScope st) k X W → PSs X (defBody st) (rdS X.gb W ent m)) : FnG P w K mg base (k + 1) f fd ps (spD ⟨K, mg⟩ ps.length (fsem N.length m)) := by
  obtain ⟨oc, od, kV, doc, pm, an, cdv, ct, osl, rfl, lk, hcd⟩ := F.ex
  exact fnG_of lk hcd S fun X W ent h1 h2 h3 h4 h5 h6 h7 g t => hb X W ent (Dx.mk' h6 h7 g t h1 h2 h3 h4 h5)
/-- .. with positional parameters alone -/
theorem fnAt_fun {x qual : Str} {st : Stmt} {f : Addr} {fd : FuncData} {N ps : List Str} {m : Sm} (F : L2.Fun K x qual st f fd) (g : mg x = some (.ref f)) (S : FnScope N ps (defScope st)) (arr : List Src) (hl : arr.length = ps.length)
    (hbind : ∀ (kV doc pm : Value) (an : Option Addr) (cdv ct : Value) (us : List Value), us.length = ps.length → bindArgs (PySem.W.fnOf x qual (defArgs st) (defBody st) (defScope st) .none kV doc pm an cdv ct) ⟨us, []⟩ = pure (ps.zip us))
    (harr : ∀ us : List Value, us.length = ps.length → fill .none us [] [] arr = us)
    (hb : ∀ (X : Cx) (W : WX) (ent : Ent), Dx ⟨P, w, K, mg, base⟩ N (defScope st) k X W → PSs X (defBody st) (rdS X.gb W ent m)) : FnAt P w K mg base (k + 1) x ⟨ps, fsem N.length m, [], [(ps.length, [], arr)]⟩ := by
  refine ⟨f, fd, [], [], g, F.kp, fnG_fun F S hb, .nil, fun _ _ => .nil, fun sh hs => ?_⟩
  rw [List.mem_singleton] at hs
  subst hs
  refine ⟨hl, fun s us ws _ hu hw => ?_⟩
  have hw0 : ws = [] := List.eq_nil_of_length_eq_zero hw
  subst hw0
  obtain ⟨oc, od, kV, doc, pm, an, cdv, ct, osl, rfl, lk, hcd⟩ := F.ex
  have hz := harr us hu
  show BindsTo s _ ⟨us, []⟩ (ps.zip (fill .none us [] [] arr))
  rw [hz]
  exact .of_eq (hbind kV doc pm an cdv ct us hu)
end

/-! the law -/
theorem cx_no {P : Program} {w : World} {H : Hp} {s : Shared} {e : Value} {s' : Shared} (h : L2.CX P w [] H s (fun _ _ _ => False) e s') : False := by
  unfold L2.CX at h
  simp at h
/-- at the heap behind the top -/
theorem law_at {P : Program} {w : World} {K : PySem.W.Frag} {mg mb : Str → Option Value} {k : Nat} {fa a : Addr} {fd : FuncData} {x : Str} {sem : Fsem} {t : Shared} {us : List Value} {ns : List Int}
    (kin : K.In t.heap) (ng : t.heap.Ns mainGlobals mg) (nb : t.heap.Ns builtinsNs mb) (boot : ∀ y : Str, y ≠ "__name__" → mb y = bootBuiltins y) (lim : t.heap.NoLimit) (g0 : t.gens = #[])
    (obj : t.heap.get? a = some { cls := .type "list", data := .seq us.toArray }) (isi : IntsAre us ns) (len : ns.length ≤ sizeLine) (room : Room k callerA)
    (fn : ∀ base : Heap, K.In base → base.Ns mainGlobals mg → FnG P w K mg base k fa fd [x] (spD ⟨K, mg⟩ 1 sem)) (bind : ∀ (s : Shared) (u : Value), BindsTo s fd ⟨[u], []⟩ [(x, u)])
    (good : ∃ S, sem [.lst (ns.map .int)] [] = .ok (.val (.bl true)) [] S) :
    codeAny (model P w) callerA (.call (.ref fa) ⟨[.ref a], []⟩) (fun r s2 => r = .ok (.ret (.bool true)) ∧ OldK t.heap s2.heap ∧ s2.os = t.os ∧ AllBare s2.gens) t := by
  have rel := vals_ints isi
  have lens := isi.length
  have main : ∀ T : Hp, SqL K T a (ns.map V.int) → (∀ b, T b = none ∨ ∃ o ys, T b = some (.frz o (.lst ys))) → HOk P w T t.heap → (∀ b, T b ≠ none → b = a) → (T a ≠ none → K.lookup a = none) →
      codeAny (model P w) callerA (.call (.ref fa) ⟨[.ref a], []⟩) (fun r s2 => r = .ok (.ret (.bool true)) ∧ OldK t.heap s2.heap ∧ s2.os = t.os ∧ AllBare s2.gens) t := by
    intro T sq only tok only_a no_k
    have free : ∀ {b : Addr} {o : Obj} {es : Array DictEntry} {ep : Nat}, t.heap.get? b = some o → o.data = .dict es ep → T b = none := fun {b o es ep} e1 e2 => by
      cases q : T b with
      | none => rfl
      | some _ =>
        cases only_a b (by simp [q])
        rw [obj] at e1
        cases e1
        exact nomatch (show Data.seq us.toArray _ = Data.dict es ep from e2)
    have nsT : ∀ {b : Addr} {m : Str → Option Value}, t.heap.Ns b m → (hidT t.heap T).Ns b m := fun ⟨o, es, ep, e1, e2, e3⟩ => ⟨o, es, ep, hidT_get e1 (free e1 e2), e2, e3⟩
    have kT : K.In (hidT t.heap T) := fun b o e1 => hidT_get (kin b o e1) (by
      cases q : T b with
      | none => rfl
      | some _ =>
        cases only_a b (by simp [q])
        rw [no_k (by simp [q])] at e1
        cases e1)
    have md : Mod K mg (hidT t.heap T) := ⟨kT, nsT ng, ⟨mb, nsT nb, boot⟩, lim.elim fun mc h => ⟨mc, nsT h.1, h.2⟩⟩
    have env : Env0 P w K mg (hidT t.heap T) callerA [] t T := ⟨rfl, md, fun b o q => of_hidT q, Nat.le_of_eq (hidT_size _ _), trivial, (fun b q => nomatch (show b ∈ ([] : List Addr) from q)), tok, .of_eq g0⟩
    have hsp : spD ⟨K, mg⟩ 1 sem [.ref a] T (fun v _ => v = .bl true) (fun _ _ _ => False) := by
      obtain ⟨S, hS⟩ := good
      have ri : ∀ l : List Int, RepL ⟨K, mg⟩ [] T (l.map V.int) (l.map D.int) := fun l => by
        induction l with
        | nil => exact .nil
        | cons i l ih => exact .cons (.int i) ih
      refine ⟨rfl, [.lst (ns.map .int)], [], T, [], .cons (.lst sq (by rw [List.length_map]; exact len) (ri ns)) .nil, ⟨Sub.refl _, rfl, fun n o b h => by simp at h, List.nodup_nil⟩, ?_⟩
      rw [hS]
      intro v H' F' rho' _ _ h
      exact repB_bl (H := H') (.inl (show Rep _ _ _ _ _ from h))
    refine codeAny_mono ((fn _ kT (nsT ng)).run callerA [] t T ⟨[.ref a], []⟩ [.ref a] [.ref a] _ _ room rfl env (bind t (.ref a)) (.cons rfl .nil) hsp) fun r s2 h => ?_
    cases r with
    | error e => exact (cx_no h).elim
    | ok fl =>
      cases fl with
      | next => exact h.elim
      | brk => exact h.elim
      | cont => exact h.elim
      | ret u =>
        obtain ⟨v, T2, os2, bare2, un, tok2, rv, hv⟩ := h
        cases (show v = .bl true from hv)
        cases (show u = Value.bool true from rv)
        refine ⟨rfl, OldK.of_keep fun b o q => ?_, os2, bare2⟩
        cases q2 : T b with
        | none => exact un.keep b o q q2 (fun z => nomatch (show b ∈ ([] : List Addr) from z)) (by simp)
        | some _ =>
          rcases only b with z | ⟨ob, ys, z⟩
          · rw [q2] at z; cases z
          · obtain ⟨y1, _⟩ := tok b _ z
            obtain ⟨y2, _⟩ := tok2 b _ (un.frzs b ob _ z)
            rw [q] at y1
            cases y1
            exact y2
  cases hk : K.lookup a with
  | some o =>
    have same := kin a o hk
    rw [obj] at same
    cases same
    exact main (fun _ => none) (.inr ⟨_, us.toArray, _, hk, rfl, rfl, rfl, by rw [List.size_toArray, lens]; exact len, by simpa using rel⟩) (fun _ => .inl rfl) (fun b u z => nomatch (show (none : Option HO) = some u from z)) (fun b z => absurd rfl z) fun z => absurd rfl z
  | none =>
    refine main (fun b => if b = a then some (.frz { cls := .type "list", data := .seq us.toArray } (.lst (ns.map V.int))) else none) (.inl (.inr ⟨{ cls := .type "list", data := .seq us.toArray }, if_pos rfl⟩)) (fun b => ?_) (fun b u z => ?_) (fun b z => ?_) fun _ => hk
    · by_cases e : b = a
      · exact .inr ⟨_, _, if_pos e⟩
      · exact .inl (if_neg e)
    · by_cases e : b = a
      · have z2 := (if_pos e).symm.trans z
        cases z2
        subst e
        exact ⟨obj, by rw [List.length_map]; exact len, us, _, rel, obj⟩
      · exact nomatch (if_neg e).symm.trans z
    · by_cases e : b = a
      · exact e
      · exact absurd (if_neg e) z
/-- what k_head leaves -/
theorem law_walk {l : PySem.W.OpenLaw} {n k : Nat} {q : Program} {loose : List Str} {XP : (Str → Option Value) → Heap → Prop} {YP : World → Heap → Prop} {d : DefRec} {K : Params → PySem.W.Frag} {x : Str} {sem : Fsem}
    (most : l.most = some n) (small : n ≤ sizeLine) (dfl : d.params.defaults = []) (room : Room k callerA) (kin : ∀ (w : World) (h : Heap), YP w h → (K w.params).In h)
    (fn : ∀ (w : World) (mg : Str → Option Value) (fa : Addr) (h : Heap), (K w.params).In h → h.Ns mainGlobals mg → mg d.name = some (.ref fa) → ∃ fd : FuncData, (∀ (s : Shared) (u : Value), BindsTo s fd ⟨[u], []⟩ [(x, u)]) ∧
      ∀ base : Heap, (K w.params).In base → base.Ns mainGlobals mg → FnG l.prog w (K w.params) mg base k fa fd [x] (spD ⟨K w.params, mg⟩ 1 sem))
    (good : ∀ ns : List Int, ns.length ≤ n → ∃ S, sem [.lst (ns.map .int)] [] = .ok (.val (.bl true)) [] S) :
    PySem.W.WalkO q loose XP YP l.row.toRowW d [] (fun f vs => PySem.call f vs) :=
  Att.attach_call most dfl fun w _ t mg _ fa o _ _ _ a us ns G Y _ _ _ hmg obj isi len g0 => by
    obtain ⟨fd, hb, hF⟩ := fn w mg fa _ (kin w _ Y) G.T.g hmg
    exact law_at (kin w _ Y) G.T.g G.T.b G.T.builtins G.T.nolimit g0 obj isi (Nat.le_trans len small) room hF hb (good ns len)
end TM
namespace TM
open PySem PySem.Spec L2
open PyProof.Rows hiding St

/-! lists of the store: such as are written within others -/
section
variable {G : Gb} {W : WX} {ent : Ent} {e : Env} {S : Sto} {σ : L2.St} {H F : Hp} {rho : List Addr}
theorem upd_self {H : Hp} {p : Addr} {o : HO} (h : H p = some o) : upd H p o = H := by
  funext a
  by_cases e : a = p
  · subst e; rw [upd_same, h]
  · rw [upd_ne e]
theorem R.pub (r : R G ent e S σ H F rho) {v : V} {ds : List D} (h : WRep G ent rho F H e σ v (.own ds)) : ∃ a, v = .ref a ∧ R G ent e (S ++ [.lst ds]) σ H F (rho ++ [a]) := by
  obtain ⟨a, e1, ⟨xs, h1, z, l⟩, h3, h4, h5, h6⟩ := h.own_of rfl
  have := r.newS (o := .lst xs) h3 h5 h4 (fun i t hi ht => h6 i t hi ht) (.lst ds) ⟨xs, upd_same, z, l.mono (Sub.refl _) (Pre.snoc rho a)⟩
  rw [upd_self h1] at this
  exact ⟨a, e1, this⟩
/-- what is made is put into the store -/
def ePub (m : Wx) : Ex := fun e S => (m e S).bind fun s e S => match s with
  | .own ds => .ok (.ref S.length) e (S ++ [.lst ds])
  | _ => .stuck
theorem rdE_pub {σ : L2.St} {H : Hp} {Q : VK} {m : Wx} (h : rdE G W ent (ePub m) σ H Q) : rdW G W ent m σ H Q := by
  obtain ⟨e, S, F, rho, hR, hp⟩ := h
  refine ⟨e, S, F, rho, hR, ?_⟩
  unfold ePub at hp
  cases q : m e S with
  | ok s e1 S1 =>
    rw [q] at hp
    intro v H' F' rho' r sb p k
    cases s with
    | own ds =>
      obtain ⟨a, rfl, r2⟩ := r.pub k
      refine hp _ H' F' _ r2 sb (p.trans (Pre.snoc rho' a)) (.ref ?_)
      rw [r.slen, List.getElem?_append_right (Nat.le_refl _), Nat.sub_self]
      rfl
    | val _ => exact hp.elim
    | ownd _ => exact hp.elim
    | ownt _ => exact hp.elim
  | exc x e1 S1 => rw [q] at hp; exact hp
  | stuck => rw [q] at hp; exact hp
theorem sem_pub {X : Cx} {a : Expr} {m : Wx} (h : PE X a (rdW X.gb W ent m)) : PE X a (rdE X.gb W ent (ePub m)) := h.weak fun σ H Q q => rdE_pub q
def lstAt (S : Sto) (d : D) : Option (List D) := match d with
  | .ref n => match S[n]? with
    | some (.lst ds) => some ds
    | _ => none
  | _ => none
theorem lstAt_of {d : D} {ds : List D} (h : lstAt S d = some ds) : ∃ n, d = .ref n ∧ S[n]? = some (.lst ds) := by
  unfold lstAt at h
  split at h
  · split at h
    · cases h; exact ⟨_, rfl, by assumption⟩
    · cases h
  · cases h
def lGetS (S : Sto) (d k : D) : Option D := match lstAt S d with
  | some ds => match k with
    | .int i => atI ds i
    | _ => none
  | none => none
theorem lGetS_of {d k v : D} (h : lGetS S d k = some v) : ∃ n ds i, d = .ref n ∧ S[n]? = some (.lst ds) ∧ k = .int i ∧ atI ds i = some v := by
  unfold lGetS at h
  split at h
  · split at h
    · obtain ⟨n, h1, h2⟩ := lstAt_of (by assumption)
      exact ⟨n, _, _, h1, h2, rfl, h⟩
    · cases h
  · cases h
def lPutS (S : Sto) (d k v : D) : Option Sto := match d with
  | .ref n => match S[n]? with
    | some (.lst ds) => match k with
      | .int i => match ixN ds.length i with
        | some j => some (S.set n (.lst (ds.set j v)))
        | none => none
      | _ => none
    | _ => none
  | _ => none
theorem lPutS_of {S' : Sto} {d k v : D} (h : lPutS S d k v = some S') : ∃ n ds i j, d = .ref n ∧ S[n]? = some (.lst ds) ∧ k = .int i ∧ ixN ds.length i = some j ∧ S' = S.set n (.lst (ds.set j v)) := by
  unfold lPutS at h
  split at h
  · split at h
    · split at h
      · split at h
        · cases h; exact ⟨_, _, _, _, rfl, by assumption, rfl, by assumption, rfl⟩
        · cases h
      · cases h
    · cases h
  · cases h
def bIxL (md mk : Ex) : Ex := fun e S => (md e S).bind fun d e S => (mk e S).bind fun k e S => match lGetS S d k with
  | some v => .ok v e S
  | none => .stuck
def sPutS (md mk mv : Ex) : Sm := fun e S => (mv e S).bind fun v e S => (md e S).bind fun d e S => (mk e S).bind fun k e S => match lPutS S d k v with
  | some S' => .ok .next e S'
  | none => .stuck
theorem R.list {n : Nat} {a : Addr} {ds : List D} (r : R G ent e S σ H F rho) (h1 : S[n]? = some (.lst ds)) (h2 : rho[n]? = some a) : ∃ xs, H a = some (.lst xs) ∧ xs.length ≤ sizeLine ∧ RepL G rho F xs ds := (r.sto n _ a h1 h2).1
end
section
variable {X : Cx} {W : WX} {ent : Ent} {pos : Pos}
theorem sem_ixL {o i : Expr} {md mk : Ex} (ho : PE X o (rdE X.gb W ent md)) (hi : PE X i (rdE X.gb W ent mk)) (hs : PlainIx i := by intro _ _; rfl) : PE X (.Subscript o i pos) (rdE X.gb W ent (bIxL md mk)) :=
  (pe_ix ix_list ho hi hs).weak fun σ H Q ⟨e, S, F, rho, hR, hp⟩ => by
    refine ⟨e, S, F, rho, hR, ?_⟩
    unfold bIxL at hp
    cases q : md e S with
    | ok d e1 S1 =>
      rw [q] at hp
      intro v H1 F1 rho1 r1 s1 p1 rep1
      refine ⟨e1, S1, F1, rho1, r1, ?_⟩
      replace hp : postE X.gb W ent σ F rho Q ((mk e1 S1).bind fun k e S => match lGetS S d k with
        | some v => .ok v e S
        | none => .stuck) := hp
      cases q2 : mk e1 S1 with
      | ok ky e2 S2 =>
        rw [q2] at hp
        intro y H2 F2 rho2 r2 s2 p2 rep2
        replace hp : postE X.gb W ent σ F rho Q (match lGetS S2 d ky with
          | some v => .ok v e2 S2
          | none => .stuck) := hp
        cases hd : lGetS S2 d ky with
        | none => rw [hd] at hp; exact hp.elim
        | some w =>
          rw [hd] at hp
          obtain ⟨n, ds, i, rfl, hn, rfl, hw⟩ := lGetS_of hd
          obtain ⟨a, rfl, ha⟩ := rep_ref rep1
          cases rep_int rep2
          obtain ⟨xs, h1, z, l⟩ := r2.list hn (p2 _ _ ha)
          obtain ⟨x, hx, rx⟩ := atI_rep l hw
          exact ⟨a, xs, i, x, rfl, rfl, .of h1, hx, hp x H2 F2 rho2 r2 (s1.trans s2) (p1.trans p2) rx⟩
      | exc x e2 S2 => rw [q2] at hp; exact postX.mono s1 p1 hp
      | stuck => rw [q2] at hp; exact hp.elim
    | exc x e1 S1 => rw [q] at hp; exact hp
    | stuck => rw [q] at hp; exact hp
theorem semS_putS {o ix value : Expr} {md mk mv : Ex} {pos' : Pos} (ho : PE X o (rdE X.gb W ent md)) (hi : PE X ix (rdE X.gb W ent mk)) (hx : PE X value (rdE X.gb W ent mv))
    (ha : ∀ v, assign (.Subscript o ix pos') X.env v = (do
      let ov ← holding [v] (eval o X.env)
      let iv ← holding [v, ov] (eval ix X.env)
      standAt pos'
      holding [v, ov, iv] (setItem ov iv v)
      release [v, ov, iv] []) := by intro _; rfl)
    (hs : swapsWithSole [.Subscript o ix pos'] value pos.line X.env = pure false := by rfl) (hw : swappedStores [.Subscript o ix pos'] value X.env = pure none := by rfl)
    (h1 : (assignEach [.Subscript o ix pos'] X.env).map (·.2) = [assign (.Subscript o ix pos') X.env] := by rfl) :
    PS X (.Assign [.Subscript o ix pos'] value pos) (rdS X.gb W ent (sPutS md mk mv)) :=
  (ps_asg hx (pg_sub ho hi set_list ha) hs hw h1).weak fun Dn σ H ⟨e, S, F, rho, hR, hp⟩ => by
    refine ⟨e, S, F, rho, hR, ?_⟩
    unfold sPutS at hp
    cases q : mv e S with
    | ok dv e0 S0 =>
      rw [q] at hp
      intro v H0 F0 rho0 r0 s0 p0 rep0
      refine ⟨e0, S0, F0, rho0, r0, ?_⟩
      replace hp : postS X.gb W ent F rho Dn ((md e0 S0).bind fun d e S => (mk e S).bind fun k e S => match lPutS S d k dv with
        | some S' => .ok .next e S'
        | none => .stuck) := hp
      cases q1 : md e0 S0 with
      | ok d e1 S1 =>
        rw [q1] at hp
        intro w H1 F1 rho1 r1 s1 p1 rep1
        refine ⟨e1, S1, F1, rho1, r1, ?_⟩
        replace hp : postS X.gb W ent F rho Dn ((mk e1 S1).bind fun k e S => match lPutS S d k dv with
          | some S' => .ok .next e S'
          | none => .stuck) := hp
        cases q2 : mk e1 S1 with
        | ok ky e2 S2 =>
          rw [q2] at hp
          intro y H2 F2 rho2 r2 s2 p2 rep2
          replace hp : postS X.gb W ent F rho Dn (match lPutS S2 d ky dv with
            | some S' => .ok .next e2 S'
            | none => .stuck) := hp
          cases hd : lPutS S2 d ky dv with
          | none => rw [hd] at hp; exact hp.elim
          | some S' =>
            rw [hd] at hp
            obtain ⟨n, ds, i, j, rfl, hn, rfl, hj, rfl⟩ := lPutS_of hd
            obtain ⟨a, rfl, ha⟩ := rep_ref rep1
            cases rep_int rep2
            obtain ⟨xs, h1, z, l⟩ := r2.list hn (p2 _ _ ha)
            refine ⟨a, xs, i, j, rfl, rfl, h1, by rw [l.length]; exact hj, ?_⟩
            exact hp σ _ F2 rho2 (r2.upSto hn (p2 _ _ ha) (.lst (ds.set j dv)) ⟨_, upd_same, by rw [List.length_set]; exact z, l.set (rep0.mono (s1.trans s2) (p1.trans p2)) j⟩) ((s0.trans s1).trans s2) ((p0.trans p1).trans p2)
        | exc x e2 S2 => rw [q2] at hp; exact postX.mono (s0.trans s1) (p0.trans p1) (hp σ)
        | stuck => rw [q2] at hp; exact hp.elim
      | exc x e2 S2 => rw [q1] at hp; exact postX.mono s0 p0 (hp σ)
      | stuck => rw [q1] at hp; exact hp.elim
    | exc x e1 S1 => rw [q] at hp; exact hp σ
    | stuck => rw [q] at hp; exact hp
/-- never reached -/
def sNo : Sm := fun _ _ => .stuck
theorem semS_no {st : Stmt} : PS X st (rdS X.gb W ent sNo) := ⟨fun pins s σ H Dn I ⟨e, S, F, rho, hR, hp⟩ => hp.elim⟩
def xNo : Ex := fun _ _ => .stuck
theorem sem_no {x : Expr} : PE X x (rdE X.gb W ent xNo) := ⟨fun pins s σ H Q I ⟨e, S, F, rho, hR, hp⟩ => hp.elim⟩
end
end TM
namespace TM
open PySem PySem.Spec L2
open PyProof.Rows hiding St

/-! short words for printed proofs -/
def isFnK : ScopeKind → Bool
  | .function => true
  | _ => false
theorem isFnK_of {k : ScopeKind} (h : isFnK k = true) : k = .function := by cases k <;> first | rfl | cases h
def isStar : Expr → Bool
  | .Starred _ _ => true
  | _ => false
def swNames (sc : Scope) (ts : List Expr) : List Str := ts.filterMap fun
    | .Name id pos => if sc.names.lookup id == some .local && pos.line == (ts.head?.map (·.pos.line)).getD 0 then some id else none
    | _ => none
def swC (sc : Scope) (ts vs : List Expr) : Option (Option (List Str)) :=
  if isFnK sc.kind = true then
    if (!(ts.length == 2 || ts.length == 3) || vs.length != ts.length) = true then some none
    else if (vs.any fun | .Starred .. => true | _ => false) = true then some none
    else if ((swNames sc ts).length != ts.length || (swNames sc ts).eraseDups.length != (swNames sc ts).length) = true then some none
    else if vs.all (foldedForSure 8) = true then some none
    else if vs.all (constantsAlone 8) = true then none else some (some (swNames sc ts))
  else none
theorem sw_of {sc : Scope} {env : PySem.Env} {ts vs : List Expr} {kt k2 pt pt2} {r : Option (List Str)} (h : swC sc ts vs = some r) (he : env.scope = sc) : swappedStores [.Tuple ts kt pt] (.Tuple vs k2 pt2) env = pure r := by
  subst he
  unfold swC at h
  split at h
  · rename_i hk
    have hb : env.blockKind = .function := by unfold PySem.Env.blockKind; rw [isFnK_of hk]; rfl
    unfold swappedStores
    simp only [hb]
    have e0 : (ScopeKind.function != ScopeKind.function) = false := rfl
    rw [e0, Bool.or_false]
    split at h
    · rename_i h1
      cases h
      exact if_pos h1
    · rename_i h1
      refine (if_neg h1).trans ?_
      split at h
      · rename_i h2
        cases h
        exact if_pos h2
      · rename_i h2
        refine (if_neg h2).trans ?_
        split at h
        · rename_i h3
          cases h
          exact if_pos h3
        · rename_i h3
          refine (if_neg h3).trans ?_
          split at h
          · rename_i h4
            cases h
            exact if_pos h4
          · rename_i h4
            refine (if_neg h4).trans ?_
            split at h
            · cases h
            · rename_i h5
              cases h
              exact if_neg h5
  · cases h
theorem sw_cell {elt : Expr} {gs : List Comprehension} {scope : Scope} {pos py : Pos} {y : Str} {l : Nat} {env : PySem.Env} (hy : env.scope.names.lookup y = some .cell) : swapsWith (.ListComp elt gs scope pos) (some (.Name y py)) l env = pure false := by
  have ky : env.kindOf y = some .cell := hy
  unfold swapsWith
  simp only [ky]
  have : (some NameKind.cell == some NameKind.local) = false := rfl
  simp only [this, Bool.and_false, Bool.false_and]
def negF : PF
  | [.int i] => some (.int (-i))
  | _ => none
theorem ok_neg {G : Gb} : PrimOk G (rL1 (rU fun i => .int (-i))) negF := by
  intro rho F H vs ds d Q s hr hf q
  unfold negF at hf
  split at hf
  · cases hf
    obtain ⟨v, rfl, h1⟩ := repBL1 hr
    cases repB_int h1
    exact ⟨_, rfl, q _ H F (Grow.refl s) (.int _)⟩
  · cases hf
def cOk (N : List Str) (sc : Scope) (i : Nat) (y : Str) : Bool := decide (N[i]? = some y) && (match sc.names.lookup y with | some .cell => true | _ => false)
section
variable {X : Cx} {W : WX} {ent : Ent} {Z : En} {N : List Str} {sc : Scope} {fs : Str → Bool} {k : Nat} {pos p pt pt2 : Pos}
theorem hu200 (c : Bx Z N sc fs k X W) : X.A.units + 200 < cLine := by have := c.room.un; omega
theorem hu64 (c : Bx Z N sc fs k X W) : X.A.units + 64 < cLine := by have := c.room.un; omega
theorem hu65 (c : Bx Z N sc fs k X W) : X.A.units + 65 < cLine := by have := c.room.un; omega
theorem hu66 (c : Bx Z N sc fs k X W) : X.A.units + 66 < cLine := by have := c.room.un; omega
theorem hu1 (c : Bx Z N sc fs k X W) : X.A.units + 1 < cLine := by have := c.room.un; omega
theorem xg {y : Str} {v : V} {d : D} (c : Bx Z N sc fs k X W) (hg : gOk sc y = true) (h : ∃ u, Z.mg y = some u ∧ RelV v u) (r : ∀ rho F, Rep X.gb rho F v d) : PE X (.Name y pos) (rdE X.gb W ent (bC d)) := by
  obtain ⟨u, h1, h2⟩ := h
  exact sem_const (pe_glob (Gl.of c hg) (by rw [c.hm]; exact h1) h2 (gOk_debug hg)) r
theorem xcall {x : Str} {i : FnI} {es : List Expr} {kws : List Keyword} {ms kms : List Ex} {arr : List Src} (c : Bx Z N sc fs k X W) (fa : FnAt Z.P Z.w Z.K Z.mg Z.base k x i) (hg : gOk sc x = true)
    (hsh : (es.length, kws.filterMap (·.arg), arr) ∈ i.shapes) (ha : OpsE X W ent es (ms.map .ex)) (hk : KwE X W ent kws kms) (hpl : es.all plainA = true := by rfl) (hkw : kws.all kwName = true := by rfl) (hlen : es.length = ms.length := by rfl) :
    PE X (.Call (.Name x p) es kws pos) (rdW X.gb W ent (wCall i.sem i.dfl arr ms kms)) :=
  semW_call c.toGd c.tk (by rw [c.hP, c.hw, c.hK, c.hm, c.hb]; exact fa) (Gl.of c hg) (gOk_debug hg) hsh hpl hkw ha hlen hk
theorem sset {value : Expr} {m : Wx} {y : Str} {pos' : Pos} (c : Bx Z N sc fs k X W) (i : Nat) (h : tOk N sc fs i y = true) (hx : PE X value (rdW X.gb W ent m)) (hs : swapsWith value (some (.Name y pos')) pos.line X.env = pure false := by rfl) :
    PS X (.Assign [.Name y pos'] value pos) (rdS X.gb W ent (sSet i m)) := by
  unfold tOk at h; simp only [Bool.and_eq_true, decide_eq_true_eq] at h
  refine semS_set hx c.nd (by rw [c.n]; exact h.1) (by unfold L2.Loc; rw [c.s]; exact isLoc_of h.2.1) ?_ hs
  have := h.2.2
  rw [Bool.or_eq_true] at this
  rcases this with q | q
  · exact .inl (by rw [c.f]; exact q)
  · exact .inr (by rw [c.s]; exact isL_of q)
theorem sw_cell' {elt : Expr} {gs : List Comprehension} {scope : Scope} {py : Pos} {y : Str} {l i : Nat} (c : Bx Z N sc fs k X W) (h : cOk N sc i y = true) : swapsWith (.ListComp elt gs scope pos) (some (.Name y py)) l X.env = pure false := by
  unfold cOk at h
  rw [Bool.and_eq_true] at h
  have h2 := h.2
  refine sw_cell ?_
  rw [c.s]
  split at h2
  · assumption
  · cases h2
def swOk (sc scope : Scope) (y : Str) (py pos : Pos) : Bool := isFnK sc.kind && ((py.line == pos.line) && !(scope.names.any fun (n, k) => n == y && (k == .local || k == .cell)))
theorem sw_lc {elt : Expr} {gs : List Comprehension} {scope : Scope} {py : Pos} {y : Str} {l i : Nat} (c : Bx Z N sc fs k X W) (hy : lOk N sc i y = true) (h : swOk sc scope y py pos = true) : swapsWith (.ListComp elt gs scope pos) (some (.Name y py)) l X.env = pure true := by
  unfold swOk at h; simp only [Bool.and_eq_true] at h
  unfold lOk at hy; simp only [Bool.and_eq_true] at hy
  exact sw_true (by rw [c.s]; exact isFnK_of h.1) (by rw [c.s]; exact isL_of hy.2) h.2.1 (by simpa using h.2.2)
theorem nOk {i : Nat} {y : Str} (c : Bx Z N sc fs k X W) (h : lOk N sc i y = true) : X.N[i]? = some y ∧ X.env.scope.names.lookup y = some .local := by
  unfold lOk at h; simp only [Bool.and_eq_true, decide_eq_true_eq] at h
  exact ⟨by rw [c.n]; exact h.1, by rw [c.s]; exact isL_of h.2⟩
theorem spar2 {x y : Str} {a b : Expr} {m n : Wx} {px py : Pos} {kt k2} (c : Bx Z N sc fs k X W) (i j : Nat) (hij : i ≠ j) (hi : lOk N sc i x = true) (hj : lOk N sc j y = true) (ha : WxE X W [a, b] [m, n])
    (hw : swC sc [.Name x px, .Name y py] [a, b] = some (some [x, y])) : PS X (.Assign [.Tuple [.Name x px, .Name y py] kt pt] (.Tuple [a, b] k2 pt2) pos) (rdS X.gb W ent (sPar [i, j] [m, n])) :=
  semS_par2 c.calm c.nd (nOk c hi).1 (nOk c hj).1 hij (nOk c hi).2 (nOk c hj).2 ha (sw_of hw c.s)
theorem spar3 {x y z : Str} {a b d : Expr} {m n o : Wx} {px py pz : Pos} {kt k2} (c : Bx Z N sc fs k X W) (i j l : Nat) (hij : i ≠ j) (hil : i ≠ l) (hjl : j ≠ l) (hi : lOk N sc i x = true) (hj : lOk N sc j y = true) (hl : lOk N sc l z = true) (ha : WxE X W [a, b, d] [m, n, o])
    (hw : swC sc [.Name x px, .Name y py, .Name z pz] [a, b, d] = some (some [x, y, z])) : PS X (.Assign [.Tuple [.Name x px, .Name y py, .Name z pz] kt pt] (.Tuple [a, b, d] k2 pt2) pos) (rdS X.gb W ent (sPar [i, j, l] [m, n, o])) :=
  semS_par3 c.calm c.nd (nOk c hi).1 (nOk c hj).1 (nOk c hl).1 hij hil hjl (nOk c hi).2 (nOk c hj).2 (nOk c hl).2 ha (sw_of hw c.s)
theorem sparT {ts es : List Expr} {is : List Nat} {ms : List Wx} {kt k2} (c : Bx Z N sc fs k X W) (hg : PGs X ts (gNames is)) (ha : WxE X W es ms) (hw : swC sc ts es = some none) (hl : is.length = ms.length := by rfl) (hz : ms.length ≤ sizeLine := by decide) (hls : ts.length = is.length := by rfl)
    (hn : (assignEach ts X.env).length = is.length := by rfl) (hst : (assignEach ts X.env).findIdx? (·.1) = none := by rfl) (hm : (assignEach [.Tuple ts kt pt] X.env).map (·.2) = [assign (.Tuple ts kt pt) X.env] := by rfl) :
    PS X (.Assign [.Tuple ts kt pt] (.Tuple es k2 pt2) pos) (rdS X.gb W ent (sPar is ms)) :=
  semS_parT c.calm hl hz hg ha hls hn hst (sw_of hw c.s) hm
theorem wxc {x : Expr} {m : Wx} {es : List Expr} {ms : List Wx} (h : ∀ ent, PE X x (rdW X.gb W ent m)) (t : WxE X W es ms) (hp : plainA x = true := by rfl) : WxE X W (x :: es) (m :: ms) := .cons h hp t
theorem wxn : WxE X W [] [] := .nil
theorem sfor {tg iter : Expr} {body : List Stmt} {it : Itx} {t : Tg} {m : Sm} {g : TG} (c : Dx Z N sc k X W) (hi : PI X tg iter (rdI X.gb W ent it)) (hg : PG X tg g) (ht : TgR X.gb g t) (hb : PSs X body (rdS X.gb W ent m))
    (hs : ∀ x, foldedSetIterable iter X.env x = pure x := by intro _; rfl) : PS X (.For tg iter body [] pos) (rdS X.gb W ent (sFor it t m)) := semS_for c.po c.calm hi hg ht hb hs
theorem swhile {cd : Expr} {body : List Stmt} {t : Tx} {m : Sm} (n : Nat) (c : Dx Z N sc k X W) (hc : PT X cd (rdT X.gb W ent t)) (hb : PSs X body (rdS X.gb W ent m)) : PS X (.While cd body [] pos) (rdS X.gb W ent (whileL t m n)) := semS_while n c.po hc hb
theorem pgs_c {x : Str} {es : List Expr} {i : Nat} {is : List Nat} (c : Bx Z N sc fs k X W) (h : tOk N sc fs i x = true) (t : PGs X es (gNames is)) (hp : plainA (.Name x p) = true := by rfl) : PGs X (.Name x p :: es) (gNames (i :: is)) := pgs_cons (gn c i h) t
end
end TM
namespace TM
open PySem PySem.Spec L2
open PyProof.Rows hiding St
abbrev ar0 : List Src := []
abbrev ar1 : List Src := [.pos 0]
abbrev ar2 : List Src := [.pos 0, .pos 1]
abbrev ar3 : List Src := [.pos 0, .pos 1, .pos 2]
abbrev ar4 : List Src := [.pos 0, .pos 1, .pos 2, .pos 3]
abbrev ar5 : List Src := [.pos 0, .pos 1, .pos 2, .pos 3, .pos 4]
theorem ox {X : Cx} {W : WX} {ent : Ent} {x : Expr} {m : Ex} (h : PE X x (rdE X.gb W ent m)) : OpE X W ent x (.ex m) := h
/-- a local's object is handed on -/
def wMove (i : Nat) : Wx := fun e S => match e[i]? with
  | some (some (.val d)) => .ok (.val d) e S
  | some (some s) => .ok s (e.set i none) S
  | _ => .stuck
theorem xmove {X : Cx} {W : WX} {ent : Ent} {Z : En} {N : List Str} {sc : Scope} {fs : Str → Bool} {k : Nat} {pos : Pos} (c : Bx Z N sc fs k X W) (i : Nat) {y : Str} (h : vOk N sc i y = true) : PE X (.Name y pos) (rdW X.gb W ent (wMove i)) :=
  (rv c i h).weak fun σ H Q ⟨e, S, F, rho, hR, hp⟩ => by
    unfold wMove at hp
    split at hp
    · rename_i d hd
      obtain ⟨v, h1, h2⟩ := hR.val i d hd
      exact ⟨v, h1, hp v H F rho hR (Sub.refl _) (Pre.refl _) h2⟩
    · rename_i s hn hs
      have hv : s.isVal = false := by
        cases s with
        | val d => exact (hn d rfl).elim
        | own _ => rfl
        | ownd _ => rfl
        | ownt _ => rfl
      obtain ⟨a, h1, h2, h3, h4, h5⟩ := hR.own i s hs hv
      refine ⟨.ref a, h1, hp _ H F rho (hR.drop i) (Sub.refl _) (Pre.refl _) (.of_own hv ⟨a, rfl, h2, h3, h4, h5, fun j t hj ht z => ?_⟩)⟩
      rcases get_set hj with ⟨_, q⟩ | ⟨hne, q⟩
      · cases q
      · exact hne (hR.sep i j s t a hs hv q ht h1 z)
    · exact hp.elim
theorem mgN {X : Cx} {W : WX} {Z : En} {N : List Str} {sc : Scope} {fs : Str → Bool} {k : Nat} {y : Str} (c : Bx Z N sc fs k X W) (h : Z.mg y = none) : X.mg y = none := by rw [c.hm]; exact h
end TM
namespace TM
open PySem PySem.Spec L2
open PyProof.Rows hiding St

/-! rows for the reckoning of meanings -/
theorem bind_ok {α β : Type} (a : α) (e : Env) (S : Sto) (f : α → Env → Sto → Out β) : (Out.ok a e S).bind f = f a e S := rfl
theorem bind_exc {α β : Type} (a : D) (e : Env) (S : Sto) (f : α → Env → Sto → Out β) : (Out.exc a e S).bind f = .exc a e S := rfl
theorem bind_stuck {α β : Type} (f : α → Env → Sto → Out β) : (Out.stuck : Out α).bind f = .stuck := rfl
theorem fMod_i (i j : Int) (h : j ≠ 0) : fMod [.int i, .int j] = some (.int (i.fmod j)) := if_pos h
theorem fFdiv_i (i j : Int) (h0 : 0 < j) (h1 : j < 1073741824) : fFdiv [.int i, .int j] = some (.int (i.fdiv j)) := if_pos ⟨by omega, by omega⟩
theorem fMul_i (i j : Int) (h0 : smI i = true ∨ smI j = true) : fMul [.int i, .int j] = some (.int (i * j)) := if_pos h0
theorem fMul_i2 (i j : Int) (h0 : 0 ≤ j) (h1 : j < 1152921504606846976) : fMul [.int i, .int j] = some (.int (i * j)) := if_pos (.inr (smI_iff ⟨by omega, h1⟩))
theorem fMul_i1 (i j : Int) (h0 : 0 ≤ i) (h1 : i < 1152921504606846976) : fMul [.int i, .int j] = some (.int (i * j)) := if_pos (.inl (smI_iff ⟨by omega, h1⟩))
theorem fm0 (a b : Int) (h : 0 < b) : 0 ≤ a.fmod b := Int.fmod_nonneg_of_pos _ h
theorem fm1 (a b N : Int) (h : 0 < b) (h2 : b ≤ N) : a.fmod b < N := Int.lt_of_lt_of_le (Int.fmod_lt_of_pos _ h) h2
theorem fd0 (a b : Int) (h : 0 < b) (h2 : 0 ≤ a) : 0 ≤ a.fdiv b := Int.fdiv_nonneg h2 (Int.le_of_lt h)
theorem fAdd_i (i j : Int) : fAdd [.int i, .int j] = some (.int (i + j)) := rfl
theorem fSub_i (i j : Int) : fSub [.int i, .int j] = some (.int (i - j)) := rfl
theorem fPow_i (i j : Int) (h : 0 ≤ j ∧ j ≤ 1000000 ∧ i.natAbs < 2 ^ 64) : fPow [.int i, .int j] = some (.int (i ^ j.toNat)) := if_pos h
theorem fAdd_l (a b : List D) (h : a.length + b.length ≤ 16777216) : fAdd [.lst a, .lst b] = some (.lst (a ++ b)) := if_pos (by rw [sizeLine_eq]; exact h)
theorem fAdd_t (a b : List D) (h : a.length + b.length ≤ 16777216) : fAdd [.tup a, .tup b] = some (.tup (a ++ b)) := if_pos (by rw [sizeLine_eq]; exact h)
theorem fAdd_s (a b : Str) (h : a.length + b.length ≤ 16777216) : fAdd [.str a, .str b] = some (.str (a ++ b)) := if_pos (by rw [sizeLine_eq]; exact h)
theorem fLt_i (i j : Int) : fLt [.int i, .int j] = some (.bl (decide (i < j))) := rfl
theorem fLe_i (i j : Int) : fLe [.int i, .int j] = some (.bl (decide (i ≤ j))) := rfl
theorem fGt_i (i j : Int) : fGt [.int i, .int j] = some (.bl (decide (j < i))) := rfl
theorem fGe_i (i j : Int) : fGe [.int i, .int j] = some (.bl (decide (j ≤ i))) := rfl
theorem fLen_l (ds : List D) : fLen [.lst ds] = some (.int ds.length) := rfl
theorem fLen_t (ds : List D) : fLen [.tup ds] = some (.int ds.length) := rfl
theorem fLen_s (x : Str) (h : x.length ≤ 16777216) : fLen [.str x] = some (.int x.length) := if_pos (by rw [sizeLine_eq]; exact h)
theorem atI_n {α : Type} (xs : List α) (i : Nat) : atI xs (i : Int) = xs[i]? := by
  cases h : xs[i]? with
  | some x => exact atI_nat h
  | none =>
    have := List.getElem?_eq_none_iff.mp h
    have e : ixN xs.length (i : Int) = none := by
      unfold ixN
      split
      · split
        · omega
        · rfl
      · split
        · omega
        · rfl
    unfold atI
    rw [e]
    rfl
theorem fIx_l (ds : List D) (i : Nat) : fIx [.lst ds, .int (i : Int)] = ds[i]? := atI_n ds i
theorem fIx_t (ds : List D) (i : Nat) : fIx [.tup ds, .int (i : Int)] = ds[i]? := atI_n ds i
end TM
namespace TM
open PySem PySem.Spec L2
open PyProof.Rows hiding St

/-! ### draws, as every law has them -/
def m__law_begin : Sm := sSeq (sRet (wDisp ["cells", "at", "left", "used"] [bPrim fAdd [.sl 0, .ex (eFrz (wLst [bC (.int 0)]))], bC (.int 0), bC (.int 0), bC (.int 0)])) (sOk .next)
def F__law_begin : Fsem := fsem 1 m__law_begin
abbrev I__law_begin : FnI := ⟨["script"], F__law_begin, [], [(1, [], ar1)]⟩
def m__law_mixed : Sm := sSeq (sSet 2 (wVal (bPrim fMod [.ex (bPrim fAdd [.ex (bPrim fAdd [.ex (bPrim fAdd [.ex (bPrim fMod [.sl 0, .ex (bC (.int 1000000007))]), .ex (bPrim fMul [.ex (bPrim fMul [.ex (bC (.int 7919)), .sl 1]), .sl 1])]), .ex (bPrim fMul [.ex (bC (.int 31)), .sl 1])]), .ex (bC (.int 7))]), .ex (bC (.int 2147483647))]))) (sSeq (sSet 2 (wVal (bPrim fMod [.ex (bPrim fMul [.ex (bPrim fMod [.ex (bPrim fMul [.sl 2, .sl 2]), .ex (bC (.int 2147483647))]), .sl 2]), .ex (bC (.int 2147483629))]))) (sSeq (sRet (wVal (bPrim fFdiv [.ex (bPrim fMod [.ex (bPrim fMul [.sl 2, .ex (bPrim fAdd [.ex (bC (.int 69621)), .ex (bPrim fMul [.ex (bC (.int 2)), .ex (bPrim fMod [.sl 1, .ex (bC (.int 1000))])])])]), .ex (bC (.int 2147483647))]), .ex (bC (.int 7))]))) (sOk .next)))
def F__law_mixed : Fsem := fsem 3 m__law_mixed
abbrev I__law_mixed : FnI := ⟨["cell", "k"], F__law_mixed, [], [(2, [], ar2)]⟩
def m__law_next : Sm := sSeq (sIf (tBool (bPrim fGt [.ex (bGet (bVar 0) (bC (.str "left"))), .ex (bC (.int 0))])) (sSeq (sSet 4 (wVal (bPrim fMod [.ex (bGet (bVar 0) (bC (.str "left"))), .sl 1]))) (sSeq (sPutD (bVar 0) (bC (.str "left")) (bPrim fFdiv [.ex (bGet (bVar 0) (bC (.str "left"))), .sl 1])) (sSeq (sRet (wMove 4)) (sOk .next)))) (sOk .next)) (sSeq (sSet 2 (wVal (bGet (bVar 0) (bC (.str "cells"))))) (sSeq (sSet 3 (wVal (bPrim fIx [.sl 2, .ex (bPrim fMod [.ex (bGet (bVar 0) (bC (.str "at"))), .ex (bPrim fLen [.sl 2])])]))) (sSeq (sPutD (bVar 0) (bC (.str "at")) (bPrim fAdd [.ex (bGet (bVar 0) (bC (.str "at"))), .ex (bC (.int 1))])) (sSeq (sIf (tAndB (tBool (bPrim fGe [.sl 3, .ex (bPrim fPow [.ex (bC (.int 10)), .ex (bC (.int 18))])])) (tBool (bPrim fLe [.ex (bGet (bVar 0) (bC (.str "at"))), .ex (bPrim fLen [.sl 2])]))) (sSeq (sPutD (bVar 0) (bC (.str "left")) (bPrim fFdiv [.sl 3, .sl 1])) (sSeq (sRet (wVal (bPrim fMod [.sl 3, .sl 1]))) (sOk .next))) (sOk .next)) (sSeq (sPutD (bVar 0) (bC (.str "used")) (bPrim fAdd [.ex (bGet (bVar 0) (bC (.str "used"))), .ex (bC (.int 1))])) (sSeq (sRet (wVal (bPrim fMod [.ex (eFrz (wCall F__law_mixed [] ar2 [eFrz (wCall F__law_mixed [] ar2 [bVar 3, bGet (bVar 0) (bC (.str "at"))] []), bGet (bVar 0) (bC (.str "used"))] [])), .sl 1]))) (sOk .next)))))))
def F__law_next : Fsem := fsem 5 m__law_next
abbrev I__law_next : FnI := ⟨["draw", "many"], F__law_next, [], [(2, [], ar2)]⟩
def drKv (cells : List Int) (a l u : Int) : List (Key × D) := [(.inr "cells", .lst (cells.map .int)), (.inr "at", .int a), (.inr "left", .int l), (.inr "used", .int u)]
structure Dr (t : Nat) (S : Sto) : Prop where
  ex : ∃ (cells : List Int) (a l u : Int) (r : Sto), S = .dict (drKv cells a l u) :: r ∧ cells ≠ [] ∧ cells.length ≤ 64 ∧ 0 ≤ a ∧ a ≤ t ∧ 0 ≤ l ∧ 0 ≤ u ∧ u ≤ t
theorem get_cells (cells : List Int) (a l u : Int) (r : Sto) : dGetS (.dict (drKv cells a l u) :: r) (.ref 0) (.str "cells") = some (.lst (cells.map .int)) := rfl
theorem get_at (cells : List Int) (a l u : Int) (r : Sto) : dGetS (.dict (drKv cells a l u) :: r) (.ref 0) (.str "at") = some (.int a) := rfl
theorem get_left (cells : List Int) (a l u : Int) (r : Sto) : dGetS (.dict (drKv cells a l u) :: r) (.ref 0) (.str "left") = some (.int l) := rfl
theorem get_used (cells : List Int) (a l u : Int) (r : Sto) : dGetS (.dict (drKv cells a l u) :: r) (.ref 0) (.str "used") = some (.int u) := rfl
theorem put_at (cells : List Int) (a l u x : Int) (r : Sto) : dPutS (.dict (drKv cells a l u) :: r) (.ref 0) (.str "at") (.int x) = some (.dict (drKv cells x l u) :: r) := rfl
theorem put_left (cells : List Int) (a l u x : Int) (r : Sto) : dPutS (.dict (drKv cells a l u) :: r) (.ref 0) (.str "left") (.int x) = some (.dict (drKv cells a x u) :: r) := rfl
theorem put_used (cells : List Int) (a l u x : Int) (r : Sto) : dPutS (.dict (drKv cells a l u) :: r) (.ref 0) (.str "used") (.int x) = some (.dict (drKv cells a l x) :: r) := rfl
theorem begin_ok (ns : List Int) (h : ns.length ≤ 63) : F__law_begin [.lst (ns.map .int)] [] = .ok (.val (.ref 0)) [] [.dict (drKv (ns ++ [0]) 0 0 0)] := by
  have e : fAdd [.lst (ns.map .int), .lst [.int 0]] = some (.lst ((ns ++ [0]).map .int)) := by
    rw [fAdd_l _ _ (by simp; omega)]
    simp
  simp only [F__law_begin, m__law_begin, bind_ok, bind_exc, bind_stuck, sizeLine_eq, fMod_i, fFdiv_i, fMul_i, fMul_i1, fMul_i2, fm0, fm1, fAdd_i, fSub_i, fPow_i, fAdd_l, fAdd_t, fAdd_s, fLt_i, fLe_i, fGt_i, fGe_i, evO, resW, evR, bPrim, bC, bVar, tTru, tBool, tNotB, tAndB, tOrB, bAnd, bOr, bNot, bIf, wIf, evX, bTup, wLst, wPrim, wVal, eFrz, wCall, sOk, sRet, sSet, sIf, sSeq, sDrop, sPar, evW, setAll, Tg.asg, Tg.asgs, mMut, sPutL, bGet, sPutD, wDisp, ePub, bIxL, sPutS, mChk, mInt, D.isStr, D.isInt, D.tru, fLen_l, fLen_t, List.length_map, iVal, itemsD, iRange, plainS, wipeE, backE, wComp, wCompB, List.all_cons, List.all_nil, Slot.isVal, Bool.and_true, Bool.true_and, Bool.and_self, fsem, env0, fill, wMove, Slot.frz, List.getElem?_cons_zero, List.getElem?_cons_succ, List.set_cons_zero, List.set_cons_succ, List.map_cons, List.map_nil, List.cons_append, List.nil_append, List.reduceReplicate, Option.getD_some, List.length_cons, List.length_nil, List.getD_cons_zero, List.getD_cons_succ, Nat.reduceAdd, Nat.reduceSub, Option.map_some, if_true, if_false, ite_true, ite_false, Bool.false_eq_true, reduceIte, Nat.reduceLeDiff, Nat.reduceEqDiff, Int.reduceEq, Int.reduceNe, Int.reduceLT, Int.reduceLE, Int.reduceNeg, Int.reducePow, ne_eq, not_false_eq_true, decide_true, decide_false, true_and, and_true, true_or, or_true, and_self, Bool.not_true, Bool.not_false, reduceCtorEq, e]
  rfl
theorem mixed_ok (cell k : Int) (S : Sto) (hk : 0 ≤ k) (hk2 : k < 1152921504606846976) : ∃ r : Int, 0 ≤ r ∧ F__law_mixed [.int cell, .int k] S = .ok (.val (.int r)) [] S := by
  simp only [F__law_mixed, m__law_mixed, bind_ok, bind_exc, bind_stuck, sizeLine_eq, fMod_i, fFdiv_i, fMul_i, fMul_i1, fMul_i2, fm0, fm1, fAdd_i, fSub_i, fPow_i, fAdd_l, fAdd_t, fAdd_s, fLt_i, fLe_i, fGt_i, fGe_i, evO, resW, evR, bPrim, bC, bVar, tTru, tBool, tNotB, tAndB, tOrB, bAnd, bOr, bNot, bIf, wIf, evX, bTup, wLst, wPrim, wVal, eFrz, wCall, sOk, sRet, sSet, sIf, sSeq, sDrop, sPar, evW, setAll, Tg.asg, Tg.asgs, mMut, sPutL, bGet, sPutD, wDisp, ePub, bIxL, sPutS, mChk, mInt, D.isStr, D.isInt, D.tru, fLen_l, fLen_t, List.length_map, iVal, itemsD, iRange, plainS, wipeE, backE, wComp, wCompB, List.all_cons, List.all_nil, Slot.isVal, Bool.and_true, Bool.true_and, Bool.and_self, fsem, env0, fill, wMove, Slot.frz, List.getElem?_cons_zero, List.getElem?_cons_succ, List.set_cons_zero, List.set_cons_succ, List.map_cons, List.map_nil, List.cons_append, List.nil_append, List.reduceReplicate, Option.getD_some, List.length_cons, List.length_nil, List.getD_cons_zero, List.getD_cons_succ, Nat.reduceAdd, Nat.reduceSub, Option.map_some, if_true, if_false, ite_true, ite_false, Bool.false_eq_true, reduceIte, Nat.reduceLeDiff, Nat.reduceEqDiff, Int.reduceEq, Int.reduceNe, Int.reduceLT, Int.reduceLE, Int.reduceNeg, Int.reducePow, ne_eq, not_false_eq_true, decide_true, decide_false, true_and, and_true, true_or, or_true, and_self, Bool.not_true, Bool.not_false, reduceCtorEq, hk, hk2]
  exact ⟨_, fd0 _ _ (by decide) (fm0 _ _ (by decide)), rfl⟩
theorem at_fmod {α : Type} {xs : List α} {a : Int} (h : xs ≠ []) : ∃ (i : Nat) (x : α), a.fmod (xs.length : Int) = (i : Nat) ∧ xs[i]? = some x := by
  have hp : 0 < (xs.length : Int) := by
    cases xs with
    | nil => exact absurd rfl h
    | cons => simp
  have h0 := fm0 a _ hp
  have h1 := fm1 a _ _ hp (Int.le_refl _)
  have h2 : (a.fmod (xs.length : Int)).toNat < xs.length := by omega
  exact ⟨(a.fmod (xs.length : Int)).toNat, xs[(a.fmod (xs.length : Int)).toNat], by omega, by simp [h2]⟩
theorem pow18 : fPow [.int 10, .int 18] = some (.int 1000000000000000000) := by
  rw [fPow_i _ _ (by decide)]
  rfl
/-- the next number -/
theorem next_ok {t : Nat} {S : Sto} {many : Int} (h : Dr t S) (ht : t < 1000000000) (h1 : 1 ≤ many) (h2 : many ≤ 1000000000) : ∃ (r : Int) (S' : Sto), 0 ≤ r ∧ r < many ∧ Dr (t + 1) S' ∧ F__law_next [.ref 0, .int many] S = .ok (.val (.int r)) [] S' := by
  obtain ⟨cells, a, l, u, rest, rfl, hc, hz, ha, hat, hl, hu, hut⟩ := h.ex
  have hm : many ≠ 0 := by omega
  have hm0 : 0 < many := by omega
  have hm1 : many < 1073741824 := by omega
  have hlen : (cells.length : Int) ≠ 0 := by
    cases cells with
    | nil => exact absurd rfl hc
    | cons => simp; omega
  obtain ⟨i, x, hi, hx⟩ := at_fmod (a := a) hc
  have hx2 : (cells.map D.int)[i]? = some (.int x) := by rw [List.getElem?_map, hx]; rfl
  by_cases q : 0 < l
  · simp only [F__law_next, m__law_next, bind_ok, bind_exc, bind_stuck, sizeLine_eq, fMod_i, fFdiv_i, fMul_i, fMul_i1, fMul_i2, fm0, fm1, fAdd_i, fSub_i, fPow_i, fAdd_l, fAdd_t, fAdd_s, fLt_i, fLe_i, fGt_i, fGe_i, evO, resW, evR, bPrim, bC, bVar, tTru, tBool, tNotB, tAndB, tOrB, bAnd, bOr, bNot, bIf, wIf, evX, bTup, wLst, wPrim, wVal, eFrz, wCall, sOk, sRet, sSet, sIf, sSeq, sDrop, sPar, evW, setAll, Tg.asg, Tg.asgs, mMut, sPutL, bGet, sPutD, wDisp, ePub, bIxL, sPutS, mChk, mInt, D.isStr, D.isInt, D.tru, fLen_l, fLen_t, List.length_map, iVal, itemsD, iRange, plainS, wipeE, backE, wComp, wCompB, List.all_cons, List.all_nil, Slot.isVal, Bool.and_true, Bool.true_and, Bool.and_self, fsem, env0, fill, wMove, Slot.frz, List.getElem?_cons_zero, List.getElem?_cons_succ, List.set_cons_zero, List.set_cons_succ, List.map_cons, List.map_nil, List.cons_append, List.nil_append, List.reduceReplicate, Option.getD_some, List.length_cons, List.length_nil, List.getD_cons_zero, List.getD_cons_succ, Nat.reduceAdd, Nat.reduceSub, Option.map_some, if_true, if_false, ite_true, ite_false, Bool.false_eq_true, reduceIte, Nat.reduceLeDiff, Nat.reduceEqDiff, Int.reduceEq, Int.reduceNe, Int.reduceLT, Int.reduceLE, Int.reduceNeg, Int.reducePow, ne_eq, not_false_eq_true, decide_true, decide_false, true_and, and_true, true_or, or_true, and_self, Bool.not_true, Bool.not_false, reduceCtorEq, get_left, put_left, q, hm, hm0, hm1]
    exact ⟨_, _, fm0 _ _ hm0, fm1 _ _ _ hm0 (Int.le_refl _), ⟨cells, a, _, u, rest, rfl, hc, hz, ha, by omega, fd0 _ _ hm0 (by omega), hu, by omega⟩, rfl⟩
  · have hmix := mixed_ok x (a + 1) (.dict (drKv cells (a + 1) l (u + 1)) :: rest) (by omega) (by omega)
    obtain ⟨y, hy, ey⟩ := hmix
    obtain ⟨z, hz2, ez⟩ := mixed_ok y (u + 1) (.dict (drKv cells (a + 1) l (u + 1)) :: rest) (by omega) (by omega)
    have fin : Dr (t + 1) (.dict (drKv cells (a + 1) l (u + 1)) :: rest) := ⟨cells, a + 1, l, u + 1, rest, rfl, hc, hz, by omega, by omega, hl, by omega, by omega⟩
    by_cases p : 1000000000000000000 ≤ x
    · by_cases p2 : a + 1 ≤ (cells.length : Int)
      · simp only [F__law_next, m__law_next, bind_ok, bind_exc, bind_stuck, sizeLine_eq, fMod_i, fFdiv_i, fMul_i, fMul_i1, fMul_i2, fm0, fm1, fAdd_i, fSub_i, fPow_i, fAdd_l, fAdd_t, fAdd_s, fLt_i, fLe_i, fGt_i, fGe_i, evO, resW, evR, bPrim, bC, bVar, tTru, tBool, tNotB, tAndB, tOrB, bAnd, bOr, bNot, bIf, wIf, evX, bTup, wLst, wPrim, wVal, eFrz, wCall, sOk, sRet, sSet, sIf, sSeq, sDrop, sPar, evW, setAll, Tg.asg, Tg.asgs, mMut, sPutL, bGet, sPutD, wDisp, ePub, bIxL, sPutS, mChk, mInt, D.isStr, D.isInt, D.tru, fLen_l, fLen_t, List.length_map, iVal, itemsD, iRange, plainS, wipeE, backE, wComp, wCompB, List.all_cons, List.all_nil, Slot.isVal, Bool.and_true, Bool.true_and, Bool.and_self, fsem, env0, fill, wMove, Slot.frz, List.getElem?_cons_zero, List.getElem?_cons_succ, List.set_cons_zero, List.set_cons_succ, List.map_cons, List.map_nil, List.cons_append, List.nil_append, List.reduceReplicate, Option.getD_some, List.length_cons, List.length_nil, List.getD_cons_zero, List.getD_cons_succ, Nat.reduceAdd, Nat.reduceSub, Option.map_some, if_true, if_false, ite_true, ite_false, Bool.false_eq_true, reduceIte, Nat.reduceLeDiff, Nat.reduceEqDiff, Int.reduceEq, Int.reduceNe, Int.reduceLT, Int.reduceLE, Int.reduceNeg, Int.reducePow, ne_eq, not_false_eq_true, decide_true, decide_false, true_and, and_true, true_or, or_true, and_self, Bool.not_true, Bool.not_false, reduceCtorEq, get_left, put_left, get_cells, get_at, put_at, get_used, put_used, q, hm, hm0, hm1, fLen_l, List.length_map, hlen, hi, fIx_l, hx2, pow18, p, p2]
        exact ⟨_, _, fm0 _ _ hm0, fm1 _ _ _ hm0 (Int.le_refl _), ⟨cells, a + 1, _, u, rest, rfl, hc, hz, by omega, by omega, fd0 _ _ hm0 (by omega), hu, by omega⟩, rfl⟩
      · simp only [F__law_next, m__law_next, bind_ok, bind_exc, bind_stuck, sizeLine_eq, fMod_i, fFdiv_i, fMul_i, fMul_i1, fMul_i2, fm0, fm1, fAdd_i, fSub_i, fPow_i, fAdd_l, fAdd_t, fAdd_s, fLt_i, fLe_i, fGt_i, fGe_i, evO, resW, evR, bPrim, bC, bVar, tTru, tBool, tNotB, tAndB, tOrB, bAnd, bOr, bNot, bIf, wIf, evX, bTup, wLst, wPrim, wVal, eFrz, wCall, sOk, sRet, sSet, sIf, sSeq, sDrop, sPar, evW, setAll, Tg.asg, Tg.asgs, mMut, sPutL, bGet, sPutD, wDisp, ePub, bIxL, sPutS, mChk, mInt, D.isStr, D.isInt, D.tru, fLen_l, fLen_t, List.length_map, iVal, itemsD, iRange, plainS, wipeE, backE, wComp, wCompB, List.all_cons, List.all_nil, Slot.isVal, Bool.and_true, Bool.true_and, Bool.and_self, fsem, env0, fill, wMove, Slot.frz, List.getElem?_cons_zero, List.getElem?_cons_succ, List.set_cons_zero, List.set_cons_succ, List.map_cons, List.map_nil, List.cons_append, List.nil_append, List.reduceReplicate, Option.getD_some, List.length_cons, List.length_nil, List.getD_cons_zero, List.getD_cons_succ, Nat.reduceAdd, Nat.reduceSub, Option.map_some, if_true, if_false, ite_true, ite_false, Bool.false_eq_true, reduceIte, Nat.reduceLeDiff, Nat.reduceEqDiff, Int.reduceEq, Int.reduceNe, Int.reduceLT, Int.reduceLE, Int.reduceNeg, Int.reducePow, ne_eq, not_false_eq_true, decide_true, decide_false, true_and, and_true, true_or, or_true, and_self, Bool.not_true, Bool.not_false, reduceCtorEq, get_left, put_left, get_cells, get_at, put_at, get_used, put_used, q, hm, hm0, hm1, fLen_l, List.length_map, hlen, hi, fIx_l, hx2, pow18, p, p2, ey, ez]
        exact ⟨_, _, fm0 _ _ hm0, fm1 _ _ _ hm0 (Int.le_refl _), fin, rfl⟩
    · simp only [F__law_next, m__law_next, bind_ok, bind_exc, bind_stuck, sizeLine_eq, fMod_i, fFdiv_i, fMul_i, fMul_i1, fMul_i2, fm0, fm1, fAdd_i, fSub_i, fPow_i, fAdd_l, fAdd_t, fAdd_s, fLt_i, fLe_i, fGt_i, fGe_i, evO, resW, evR, bPrim, bC, bVar, tTru, tBool, tNotB, tAndB, tOrB, bAnd, bOr, bNot, bIf, wIf, evX, bTup, wLst, wPrim, wVal, eFrz, wCall, sOk, sRet, sSet, sIf, sSeq, sDrop, sPar, evW, setAll, Tg.asg, Tg.asgs, mMut, sPutL, bGet, sPutD, wDisp, ePub, bIxL, sPutS, mChk, mInt, D.isStr, D.isInt, D.tru, fLen_l, fLen_t, List.length_map, iVal, itemsD, iRange, plainS, wipeE, backE, wComp, wCompB, List.all_cons, List.all_nil, Slot.isVal, Bool.and_true, Bool.true_and, Bool.and_self, fsem, env0, fill, wMove, Slot.frz, List.getElem?_cons_zero, List.getElem?_cons_succ, List.set_cons_zero, List.set_cons_succ, List.map_cons, List.map_nil, List.cons_append, List.nil_append, List.reduceReplicate, Option.getD_some, List.length_cons, List.length_nil, List.getD_cons_zero, List.getD_cons_succ, Nat.reduceAdd, Nat.reduceSub, Option.map_some, if_true, if_false, ite_true, ite_false, Bool.false_eq_true, reduceIte, Nat.reduceLeDiff, Nat.reduceEqDiff, Int.reduceEq, Int.reduceNe, Int.reduceLT, Int.reduceLE, Int.reduceNeg, Int.reducePow, ne_eq, not_false_eq_true, decide_true, decide_false, true_and, and_true, true_or, or_true, and_self, Bool.not_true, Bool.not_false, reduceCtorEq, get_left, put_left, get_cells, get_at, put_at, get_used, put_used, q, hm, hm0, hm1, fLen_l, List.length_map, hlen, hi, fIx_l, hx2, pow18, p, ey, ez]
      exact ⟨_, _, fm0 _ _ hm0, fm1 _ _ _ hm0 (Int.le_refl _), fin, rfl⟩
end TM
namespace TM
open PySem PySem.Spec L2
open PyProof.Rows hiding St

/-! loops, reckoned -/
theorem forL_run {t : Tg} {m : Sm} (I : Nat → Env → Sto → Prop) : ∀ (ds : List D) (i : Nat) (e : Env) (S : Sto), I i e S →
    (∀ (j : Nat) (d : D) (e : Env) (S : Sto), ds[j]? = some d → I (i + j) e S → ∃ e1 e2 S2, t.asg d e = some e1 ∧ m e1 S = .ok .next e2 S2 ∧ I (i + j + 1) e2 S2) → ∃ e' S', forL t m ds e S = .ok .next e' S' ∧ I (i + ds.length) e' S'
  | [], i, e, S, h, _ => ⟨e, S, rfl, h⟩
  | d :: ds, i, e, S, h, hs => by
    obtain ⟨e1, e2, S2, h1, h2, h3⟩ := hs 0 d e S rfl h
    obtain ⟨e', S', k1, k2⟩ := forL_run I ds (i + 1) e2 S2 h3 fun j d e S hd hI => by
      have := hs (j + 1) d e S (by simpa using hd) (by rw [show i + (j + 1) = i + 1 + j by omega]; exact hI)
      rw [show i + (j + 1) + 1 = i + 1 + j + 1 by omega] at this
      exact this
    refine ⟨e', S', ?_, by rw [List.length_cons, show i + (ds.length + 1) = i + 1 + ds.length by omega]; exact k2⟩
    rw [forL, h1]
    simp only [h2, bind_ok]
    exact k1
theorem whileL_run {t : Tx} {m : Sm} (I : Nat → Env → Sto → Prop) (Fin : Env → Sto → Prop) (h0 : ∀ k e S, I k e S → (∃ e1 S1, t e S = .ok false e1 S1 ∧ Fin e1 S1) ∨ (∃ e1 S1 e2 S2 k', t e S = .ok true e1 S1 ∧ m e1 S1 = .ok .next e2 S2 ∧ k' < k ∧ I k' e2 S2)) :
    ∀ (n k : Nat) (e : Env) (S : Sto), I k e S → k < n → ∃ e' S', whileL t m n e S = .ok .next e' S' ∧ Fin e' S'
  | 0, k, e, S, _, h => by omega
  | n + 1, k, e, S, hI, hk => by
    rcases h0 k e S hI with ⟨e1, S1, h1, h2⟩ | ⟨e1, S1, e2, S2, k', h1, h2, h3, h4⟩
    · refine ⟨e1, S1, ?_, h2⟩
      rw [whileL, h1]
      rfl
    · obtain ⟨e', S', q1, q2⟩ := whileL_run I Fin h0 n k' e2 S2 h4 (by omega)
      refine ⟨e', S', ?_, q2⟩
      rw [whileL, h1]
      simp only [bind_ok, if_true, h2]
      exact q1
theorem compL_run {vs : List Nat} {t : Tg} {m : Ex} (I : Nat → Env → Sto → Prop) (P : Nat → D → Prop) : ∀ (ds : List D) (i : Nat) (acc : List D) (e : Env) (S : Sto), acc.length + ds.length ≤ 16777216 → I i e S →
    (∀ (j : Nat) (d : D) (e : Env) (S : Sto), ds[j]? = some d → I (i + j) e S → ∃ e1 y e2 S2, t.asg d e = some e1 ∧ m e1 S = .ok y e2 S2 ∧ I (i + j + 1) (wipeE e2 vs) S2 ∧ P (i + j) y) →
    ∃ ys e' S', compL vs t bTT (turn1 m) ds acc e S = .ok (acc ++ ys) e' S' ∧ I (i + ds.length) e' S' ∧ ys.length = ds.length ∧ ∀ j y, ys[j]? = some y → P (i + j) y
  | [], i, acc, e, S, _, h, _ => ⟨[], e, S, by rw [List.append_nil]; rfl, h, rfl, fun j y q => by simp at q⟩
  | d :: ds, i, acc, e, S, hz, h, hs => by
    obtain ⟨e1, y, e2, S2, h1, h2, h3, h4⟩ := hs 0 d e S rfl h
    rw [List.length_cons] at hz
    obtain ⟨ys, e', S', k1, k2, k3, k4⟩ := compL_run I P ds (i + 1) (acc ++ [y]) (wipeE e2 vs) S2 (by rw [List.length_append, List.length_singleton]; omega) h3 fun j d e S hd hI => by
      have := hs (j + 1) d e S (by simpa using hd) (by rw [show i + (j + 1) = i + 1 + j by omega]; exact hI)
      rw [show i + (j + 1) + 1 = i + 1 + j + 1 by omega, show i + (j + 1) = i + 1 + j by omega] at this
      exact this
    refine ⟨y :: ys, e', S', ?_, by rw [List.length_cons, show i + (ds.length + 1) = i + 1 + ds.length by omega]; exact k2, by rw [List.length_cons, List.length_cons, k3], fun j z q => ?_⟩
    · rw [compL, h1]
      have ha : acc.length < sizeLine := by rw [sizeLine_eq]; omega
      simp only [bTT, turn1, h2, if_pos ha]
      rw [show acc ++ y :: ys = acc ++ [y] ++ ys by simp]
      exact k1
    · cases j with
      | zero => simp at q; subst q; exact h4
      | succ j =>
        have := k4 j z (by simpa using q)
        rw [show i + (j + 1) = i + 1 + j by omega]
        exact this
/-- with a test -/
theorem compF_run {vs : List Nat} {t : Tg} {tt : Tx} {m : Ex} {e0 : Env} {S0 : Sto} (f : D → Option D) : ∀ (ds : List D) (acc : List D), acc.length + ds.length ≤ 16777216 →
    (∀ d ∈ ds, ∃ e1, t.asg d e0 = some e1 ∧ match f d with
      | some y => ∃ e2 e3, tt e1 S0 = .ok true e2 S0 ∧ m e2 S0 = .ok y e3 S0 ∧ wipeE e3 vs = e0
      | none => ∃ e2, tt e1 S0 = .ok false e2 S0 ∧ wipeE e2 vs = e0) → compL vs t tt (turn1 m) ds acc e0 S0 = .ok (acc ++ ds.filterMap f) e0 S0
  | [], acc, _, _ => by rw [List.filterMap_nil, List.append_nil]; rfl
  | d :: ds, acc, hz, h => by
    rw [List.length_cons] at hz
    obtain ⟨e1, h1, h2⟩ := h d List.mem_cons_self
    rw [compL, h1]
    cases q : f d with
    | none =>
      rw [q] at h2
      obtain ⟨e2, h3, h4⟩ := h2
      simp only [h3, h4]
      rw [List.filterMap_cons_none q]
      exact compF_run f ds acc (by omega) fun d hd => h d (List.mem_cons_of_mem _ hd)
    | some y =>
      rw [q] at h2
      obtain ⟨e2, e3, h3, h4, h5⟩ := h2
      have ha : acc.length < sizeLine := by rw [sizeLine_eq]; omega
      simp only [h3, turn1, h4, if_pos ha, h5]
      rw [List.filterMap_cons_some q, show acc ++ y :: ds.filterMap f = acc ++ [y] ++ ds.filterMap f by simp]
      exact compF_run f ds (acc ++ [y]) (by rw [List.length_append, List.length_singleton]; omega) fun d hd => h d (List.mem_cons_of_mem _ hd)
theorem range1_ok (n : Nat) (h : n ≤ 16777216) : range1 [.int (n : Int)] = some (rangeD 0 n 1) := by
  refine (if_pos ⟨smI_iff ⟨by omega, by omega⟩, by omega⟩).trans ?_
  rw [Int.toNat_natCast]
theorem range2_ok (a b : Nat) (h : b ≤ 16777216) (h2 : a ≤ 16777216) : range2 [.int (a : Int), .int (b : Int)] = some (rangeD a (b - a) 1) := by
  refine (if_pos ⟨smI_iff ⟨by omega, by omega⟩, smI_iff ⟨by omega, by omega⟩, by omega⟩).trans ?_
  rw [show ((b : Int) - a).toNat = b - a by omega]
theorem range3_ok (n : Nat) (h : n ≤ 16777216) : range3 [.int ((n : Int) - 1), .int (-1), .int (-1)] = some (rangeD ((n : Int) - 1) n (-1)) := by
  refine (if_pos ⟨rfl, smI_iff ⟨by omega, by omega⟩, smI_iff ⟨by omega, by omega⟩, by omega⟩).trans ?_
  rw [show ((n : Int) - 1 - -1).toNat = n by omega]
theorem rangeD_length (lo : Int) (n : Nat) (c : Int) : (rangeD lo n c).length = n := by simp [rangeD]
theorem rangeD_get {lo : Int} {n : Nat} {c : Int} {j : Nat} {d : D} (h : (rangeD lo n c)[j]? = some d) : j < n ∧ d = .int (lo + (j : Nat) * c) := by
  have hj : j < n := by rw [← rangeD_length lo n c]; exact (List.getElem?_eq_some_iff.mp h).1
  unfold rangeD at h
  rw [List.getElem?_map, List.getElem?_range hj] at h
  exact ⟨hj, by cases h; rfl⟩
theorem forL_rng {t : Tg} {m : Sm} (I : Nat → Env → Sto → Prop) {g : Nat → D} : ∀ (n i : Nat) (e : Env) (S : Sto), I i e S → (∀ j, i ≤ j → j < i + n → ∀ e S, I j e S → ∃ e2 S2, (∀ ds, forL t m (g j :: ds) e S = forL t m ds e2 S2) ∧ I (j + 1) e2 S2) →
    ∃ e' S', forL t m ((List.range' i n).map g) e S = .ok .next e' S' ∧ I (i + n) e' S'
  | 0, i, e, S, h, _ => ⟨e, S, rfl, h⟩
  | n + 1, i, e, S, h, hs => by
    obtain ⟨e2, S2, h1, h2⟩ := hs i (Nat.le_refl _) (by omega) e S h
    obtain ⟨e', S', k1, k2⟩ := forL_rng I n (i + 1) e2 S2 h2 fun j a b => hs j (by omega) (by omega)
    refine ⟨e', S', ?_, by rw [show i + (n + 1) = i + 1 + n by omega]; exact k2⟩
    rw [List.range'_succ, List.map_cons, h1]
    exact k1
theorem rangeD_down (n : Nat) : rangeD ((n : Int) - 1) n (-1) = (List.range' 0 n).map fun i => .int ((n - 1 - i : Nat) : Int) := by
  unfold rangeD
  rw [List.range_eq_range']
  apply List.map_congr_left
  intro i hi
  have : i < n := by
    have := List.mem_range'.mp hi
    omega
  congr 1
  omega
theorem rangeD_up (n : Nat) : rangeD 0 n 1 = (List.range' 0 n).map fun i => .int (i : Nat) := by
  unfold rangeD
  rw [List.range_eq_range']
  apply List.map_congr_left
  intro i hi
  congr 1
  omega
/-- turns of any kind that leave all as it stood -/
theorem compB_run {vs : List Nat} {t : Tg} {B : Turn} {e0 : Env} {S0 : Sto} (M : Nat) (f : D → List D) : ∀ (ds acc : List D), (acc ++ ds.flatMap f).length ≤ M →
    (∀ d ∈ ds, ∃ e1, t.asg d e0 = some e1 ∧ ∀ acc : List D, acc.length ≤ M → ∃ e3, B acc e1 S0 = .ok (acc ++ f d) e3 S0 ∧ wipeE e3 vs = e0) → compL vs t bTT B ds acc e0 S0 = .ok (acc ++ ds.flatMap f) e0 S0
  | [], acc, _, _ => by rw [List.flatMap_nil, List.append_nil]; rfl
  | d :: ds, acc, hz, h => by
    rw [List.flatMap_cons, ← List.append_assoc] at hz
    obtain ⟨e1, h1, h2⟩ := h d List.mem_cons_self
    obtain ⟨e3, h3, h4⟩ := h2 acc (by rw [List.length_append, List.length_append] at hz; omega)
    rw [compL, h1]
    simp only [bTT, h3, h4]
    rw [List.flatMap_cons, ← List.append_assoc]
    exact compB_run M f ds (acc ++ f d) hz fun d hd => h d (List.mem_cons_of_mem _ hd)
theorem eq_i (a b : Int) : fEq [.int a, .int b] = some (.bl (decide (a = b))) := by
  show some (D.bl (PyData.eqv (.int a) (.int b))) = _
  congr 2
theorem ne_i (a b : Int) : fNe [.int a, .int b] = some (.bl (!decide (a = b))) := by
  show some (D.bl (!PyData.eqv (.int a) (.int b))) = _
  congr 2
theorem eq_str (a b : Str) : fEq [.str a, .str b] = some (.bl (decide (a = b))) := rfl
theorem ne_str (a b : Str) : fNe [.str a, .str b] = some (.bl (!decide (a = b))) := rfl
end TM
namespace TM
open PySem PySem.Spec L2
open PyProof.Rows hiding St

/-! texts of data: how long at most -/
structure Shw (k B : Nat) (d : D) : Prop where
  dat : d.dat = true
  dep : d.dep ≤ k
  sho : d.py.showable = true
  len : d.py.shown.length ≤ B
theorem Shw.mono {k k' B B' : Nat} {d : D} (h : Shw k B d) (h1 : k ≤ k') (h2 : B ≤ B') : Shw k' B' d := ⟨h.dat, Nat.le_trans h.dep h1, h.sho, Nat.le_trans h.len h2⟩
theorem shw_all {k B : Nat} : ∀ {ds : List D}, (∀ d ∈ ds, Shw k B d) → D.dats ds = true ∧ D.deps ds ≤ k ∧ PyData.showableAll (D.pys ds) = true ∧ (PyData.shownAll (D.pys ds)).length = ds.length ∧ ((PyData.shownAll (D.pys ds)).map (·.length)).sum ≤ ds.length * B
  | [], _ => ⟨rfl, Nat.zero_le _, rfl, rfl, Nat.zero_le _⟩
  | d :: ds, h => by
    have h0 := h d List.mem_cons_self
    obtain ⟨h1, h2, h3, h4, h5⟩ := shw_all (ds := ds) fun d hd => h d (List.mem_cons_of_mem _ hd)
    refine ⟨?_, ?_, ?_, ?_, ?_⟩
    · show (d.dat && D.dats ds) = true
      rw [h0.dat, h1]; rfl
    · show max d.dep (D.deps ds) ≤ k
      have := h0.dep
      omega
    · show (d.py.showable && PyData.showableAll (D.pys ds)) = true
      rw [h0.sho, h3]; rfl
    · show (PyData.shownAll (D.pys ds)).length + 1 = _
      rw [h4]; rfl
    · show d.py.shown.length + ((PyData.shownAll (D.pys ds)).map (·.length)).sum ≤ (ds.length + 1) * B
      have := h0.len
      rw [Nat.add_mul, Nat.one_mul]
      omega
theorem Shw.lst {k B : Nat} {ds : List D} (h : ∀ d ∈ ds, Shw k B d) : Shw (k + 1) (ds.length * B + 2 * ds.length + 3) (.lst ds) := by
  obtain ⟨h1, h2, h3, h4, h5⟩ := shw_all h
  refine ⟨h1, Nat.succ_le_succ h2, h3, ?_⟩
  show (listText (PyData.shownAll (D.pys ds))).length ≤ _
  have := listText_len_le (PyData.shownAll (D.pys ds))
  rw [h4] at this
  omega
theorem Shw.tup {k B : Nat} {ds : List D} (h : ∀ d ∈ ds, Shw k B d) : Shw (k + 1) (ds.length * B + 2 * ds.length + 3) (.tup ds) := by
  obtain ⟨h1, h2, h3, h4, h5⟩ := shw_all h
  refine ⟨h1, Nat.succ_le_succ h2, h3, ?_⟩
  show (tupleText (PyData.shownAll (D.pys ds))).length ≤ _
  have := tupleText_len_le (PyData.shownAll (D.pys ds))
  rw [h4] at this
  omega
theorem small_shown : ((List.range 100).all fun n => decide ((PyData.int (n : Nat)).shown.length ≤ 2) && (PyData.int (n : Nat)).showable) = true := by decide +kernel
theorem Shw.nat {n : Nat} (h : n < 100) : Shw 0 2 (.int (n : Nat)) := by
  have := List.all_eq_true.mp small_shown n (List.mem_range.mpr h)
  rw [Bool.and_eq_true, decide_eq_true_eq] at this
  exact ⟨rfl, Nat.le_refl _, this.2, this.1⟩
theorem Shw.str {x : Str} {n : Nat} (h : x.length ≤ n) (hc : ∀ c ∈ x.cps.toList, c < 0x110000) : Shw 0 (10 * n + 2) (.str x) := by
  refine ⟨?_, Nat.le_refl _, rfl, ?_⟩
  · show PyData.strOk x = true
    unfold PyData.strOk
    rw [Array.all_eq_true']
    intro c hm
    exact decide_eq_true (hc c (Array.mem_toList_iff.mpr hm))
  · show (reprText x).length ≤ _
    have := StrLaws.reprText_len x fun c hm => Nat.lt_of_lt_of_le (hc c hm) (by decide)
    omega
theorem repr_l {k B : Nat} {ds : List D} (h : Shw k B (.lst ds)) (hk : k ≤ 64) (hB : B ≤ 16777216) : fRepr [.lst ds] = some (.str (D.lst ds).py.shown) := by
  have : (D.lst ds).shows = true := by
    unfold D.shows
    rw [h.dat, h.sho, decide_eq_true (Nat.le_trans h.dep hk), decide_eq_true (show (D.lst ds).py.shown.length ≤ sizeLine by rw [sizeLine_eq]; exact Nat.le_trans h.len hB)]
    rfl
  exact if_pos this
end TM
namespace TM
open PySem PySem.Spec L2
open PyProof.Rows hiding St
theorem Dr.mono {t u : Nat} {S : Sto} (h : Dr t S) (k : t ≤ u) : Dr u S := by
  obtain ⟨c, a, l, x, r, h1, h2, h3, h4, h5, h6, h7, h8⟩ := h.ex
  exact ⟨c, a, l, x, r, h1, h2, h3, h4, by omega, h6, h7, by omega⟩
theorem Dr.app {t : Nat} {S : Sto} (h : Dr t S) (T : Sto) : Dr t (S ++ T) := by
  obtain ⟨c, a, l, x, r, rfl, h2⟩ := h.ex
  exact ⟨c, a, l, x, r ++ T, rfl, h2⟩
theorem jL_nil : ∀ l : List (List Nat), TL.joinL [] l = l.flatten
  | [] => rfl
  | [p] => by simp [TL.joinL]
  | p :: q :: r => by
    show p ++ ([] ++ TL.joinL [] (q :: r)) = _
    rw [jL_nil (q :: r), List.nil_append]
    rfl
theorem join_cps (parts : List Str) : (Txt.join "" parts).cps.toList = (parts.map fun p => p.cps.toList).flatten := by
  have h := TL.tl_join "" parts
  rw [← TL.join_eq] at h
  have e : TL.tl ("" : Str) = [] := rfl
  rw [e, jL_nil] at h
  exact h
theorem strsD_of : ∀ (ys : List D), (∀ (j : Nat) (y : D), ys[j]? = some y → ∃ s, y = .str s) → ∃ ss, strsD ys = some ss ∧ ys = ss.map .str
  | [], _ => ⟨[], rfl, rfl⟩
  | y :: ys, h => by
    obtain ⟨s, rfl⟩ := h 0 y rfl
    obtain ⟨ss, h1, rfl⟩ := strsD_of ys fun j z q => h (j + 1) z (by simpa using q)
    exact ⟨s :: ss, by simp [strsD, h1], rfl⟩
theorem cut_to {α : Type} (xs : List α) (k : Nat) : cutL xs none (some (k : Int)) = xs.take k := by
  unfold cutL
  rw [HT.sIx_nat, HT.sIx_none, List.drop_zero, Nat.sub_zero]
  by_cases h : k ≤ xs.length
  · rw [Nat.min_eq_left h]
  · rw [Nat.min_eq_right (by omega), List.take_of_length_le (Nat.le_refl _), List.take_of_length_le (by omega)]
theorem cut_from {α : Type} (xs : List α) (k : Nat) : cutL xs (some (k : Int)) none = xs.drop k := by
  unfold cutL
  rw [HT.sIx_nat, HT.sIx_none]
  by_cases h : k ≤ xs.length
  · rw [Nat.min_eq_left h, List.take_of_length_le (by rw [List.length_drop]; exact Nat.le_refl _)]
  · rw [Nat.min_eq_right (by omega), Nat.sub_self, List.take_zero, List.drop_of_length_le (by omega)]
theorem sl_to_l (ds : List D) (k : Nat) : fSl01 [.lst ds, .int (k : Nat)] = some (.lst (ds.take k)) := by
  show some (D.lst (cutL ds none (some (k : Int)))) = _
  rw [cut_to]
theorem sl_from_l (ds : List D) (k : Nat) : fSl10 [.lst ds, .int (k : Nat)] = some (.lst (ds.drop k)) := by
  show some (D.lst (cutL ds (some (k : Int)) none)) = _
  rw [cut_from]
theorem sl_to_t (ds : List D) (k : Nat) : fSl01 [.tup ds, .int (k : Nat)] = some (.tup (ds.take k)) := by
  show some (D.tup (cutL ds none (some (k : Int)))) = _
  rw [cut_to]
theorem sl_from_t (ds : List D) (k : Nat) : fSl10 [.tup ds, .int (k : Nat)] = some (.tup (ds.drop k)) := by
  show some (D.tup (cutL ds (some (k : Int)) none)) = _
  rw [cut_from]
theorem er_map {α β : Type} (f : α → β) : ∀ (l : List α) (k : Nat), (l.map f).eraseIdx k = (l.eraseIdx k).map f
  | [], _ => rfl
  | _ :: _, 0 => rfl
  | a :: l, k + 1 => by
    show f a :: (l.map f).eraseIdx k = f a :: (l.eraseIdx k).map f
    rw [er_map f l k]
end TM
namespace TM
open PySem PySem.Spec L2
open PyProof.Rows hiding St

/-! dict(a list of pairs) -/
def pairsD : List D → Option (List (Key × D))
  | [] => some []
  | .tup [k, v] :: ds => match keyD k, pairsD ds with
    | some x, some r => some ((x, v) :: r)
    | _, _ => none
  | _ :: _ => none
def fDict : PF
  | [.lst ds] => match pairsD ds with
    | some kvs => some (.dct ((mergeKD [] kvs).map (·.1)) ((mergeKD [] kvs).map (·.2)))
    | none => none
  | _ => none
theorem pairs_rep {G : Gb} {rho : List Addr} {F H : Hp} (s : Sub F H) : ∀ {vs : List V} {ds : List D} {kvs : List (Key × D)}, RepL G rho F vs ds → pairsD ds = some kvs →
    ∃ (ps : List Addr) (ws : List (Key × V)), vs = ps.map V.ref ∧ Paired (fun p kv => SqT G.K H p [kV kv.1, kv.2]) ps ws ∧ KRel G rho F ws kvs
  | _, _, _, .nil, h => by cases h; exact ⟨[], [], rfl, .nil, .nil⟩
  | _, _, kvs, .cons (d := d) (ds := ds) r l, h => by
    unfold pairsD at h
    split at h
    · rename_i e0; cases e0
    · rename_i k v ds' e
      cases e
      split at h
      · rename_i x r' hk hr
        cases h
        obtain ⟨ps, ws, rfl, h2, h3⟩ := pairs_rep s l hr
        cases r with
        | @tup a xs _ t1 t3 z t2 =>
          obtain ⟨kv, vv, rfl, q1, q2⟩ := t2.two
          have := rep_key q1 hk
          subst this
          exact ⟨a :: ps, (x, vv) :: ws, rfl, .cons (sqT_mono s t1) h2, .cons q2 h3⟩
      · cases h
    · cases h
theorem ok_dict {X : Cx} : PrimOk X.gb (fun xs H Q => ∃ (a : Addr) (ps : List Addr) (kvs : List (Key × V)), xs = [.ref a] ∧ SqL X.K H a (ps.map V.ref) ∧ Paired (fun p kv => SqT X.K H p [kV kv.1, kv.2]) ps kvs ∧
    ∀ p, H p = none → Q (.ref p) (upd H p (.dK (mergeK [] kvs)))) fDict := by
  intro rho F H vs ds d Q s hr hf q
  unfold fDict at hf
  split at hf
  · split at hf
    · rename_i kvs hk
      cases hf
      obtain ⟨v, rfl, h1⟩ := repBL1 hr
      obtain ⟨a, xs, rfl, t, z, l⟩ := repB_lst s h1
      obtain ⟨ps, ws, rfl, h2, h3⟩ := pairs_rep s l hk
      refine ⟨a, ps, ws, rfl, t, h2, fun p hp => ?_⟩
      have m := h3.merge (vs := []) (ds := []) .nil
      have g := Grow.alloc (o := .dK (mergeK [] ws)) s hp
      have m2 := m.mono (g.sub s) (Pre.refl rho)
      exact q _ _ _ g (.dct upd_same m2.keys m2.vals)
    · cases hf
  · cases hf

/-! xs.reverse(), xs.extend(a new list) -/
def mfReverse : MF := fun xs ds => match ds with
  | [] => some (xs.reverse, .non)
  | _ => none
theorem ok_reverse {G : Gb} : MutOk G rReverse mfReverse := by
  intro rho F H a vs as xs ds ys d Q s hx l la hf z q
  unfold mfReverse at hf
  split at hf
  · cases hf
    cases la
    exact ⟨a, vs, rfl, rfl, hx, q _ _ l.reverse .non⟩
  · cases hf
def mExt (i : Nat) (m : Wx) : Ex := fun e S => match e[i]? with
  | some (some (.own _)) => (m e S).bind fun s e S => match s with
    | .own ds => match e[i]? with
      | some (some (.own xs)) => if xs.length + ds.length ≤ sizeLine then .ok .non (e.set i (some (.own (xs ++ ds)))) S else .stuck
      | _ => .stuck
    | _ => .stuck
  | _ => .stuck
section
variable {X : Cx} {W : WX} {ent : Ent} {Z : En} {N : List Str} {sc : Scope} {fs : Str → Bool} {k : Nat}
theorem sem_ext {i : Nat} {y : Str} {x : Expr} {m : Wx} {p apos cpos : Pos} (c : Bx Z N sc fs k X W) (hv : vOk N sc i y = true) (hx : PE X x (rdW X.gb W ent m)) (hpl : plainA x = true := by rfl)
    (hbase : attributeBase (.Name y p) "extend" X.env (eval (.Name y p) X.env) = eval (.Name y p) X.env := by rfl)
    (hfew : ((backTo cpos (starEach [x] X.env)).all (fun x => !x.1) && (backToKw cpos (keywordEach [] X.env)).all (fun x => x.1.isSome)
      && decide (([x] : List Expr).length + ([] : List Keyword).length + (if ([] : List Keyword).isEmpty then 0 else 1) < 30)) = true := by rfl)
    (hline : (apos.endLine == cpos.line) = true := by rfl) : PE X (.Call (.Attribute (.Name y p) "extend" apos) [x] [] cpos) (rdE X.gb W ent (mExt i m)) :=
  (pe_bm PySem.F.plainAttrs_list PySem.F.slot_list_extend PySem.F.type_list_extend mt_extend (rv c i hv) (pa_cons hx pa_nil (star_plain hpl [] _)) hbase hfew hline (star_plain hpl [] _) (back_plain (es := []) rfl)).weak fun σ H Q ⟨e, S, F, rho, hR, hp⟩ => by
    unfold mExt at hp
    split at hp
    · rename_i d0 hi
      obtain ⟨a, q1, ⟨xs0, hx0, _, _⟩, _⟩ := hR.own i _ hi rfl
      refine ⟨.ref a, q1, .inl ⟨rfl, xs0, .of hx0⟩, e, S, F, rho, hR, ?_⟩
      cases q : m e S with
      | ok s e1 S1 =>
        rw [q] at hp
        intro v H' F' rho' r' sb pr w
        replace hp : postE X.gb W ent σ F rho Q (match (generalizing := false) s with
          | .own ds => match e1[i]? with
            | some (some (.own xs)) => if xs.length + ds.length ≤ sizeLine then .ok .non (e1.set i (some (.own (xs ++ ds)))) S1 else .stuck
            | _ => .stuck
          | _ => .stuck) := hp
        cases s with
        | own ds =>
          replace hp : postE X.gb W ent σ F rho Q (match e1[i]? with
            | some (some (.own xs)) => if xs.length + ds.length ≤ sizeLine then .ok .non (e1.set i (some (.own (xs ++ ds)))) S1 else .stuck
            | _ => .stuck) := hp
          split at hp
          · rename_i xs hi2
            split at hp
            · rename_i hz
              obtain ⟨b, rfl, ⟨zs, hb, zb, lb⟩, _⟩ := w.own_of rfl
              obtain ⟨a', k1, ⟨vs0, kx, kz, kl⟩, _⟩ := r'.own i _ hi2 rfl
              rw [q1] at k1; cases k1
              refine ⟨a, b, vs0, zs, rfl, rfl, kx, hb, by rw [kl.length, lb.length]; exact hz, ?_⟩
              exact hp .non _ F' rho' (r'.upOwn hi2 rfl q1 ⟨_, upd_same, by rw [List.length_append, kl.length, lb.length]; exact hz, kl.append lb⟩ rfl) sb pr .non
            · exact hp.elim
          · exact hp.elim
        | val _ => exact hp.elim
        | ownd _ => exact hp.elim
        | ownt _ => exact hp.elim
      | exc x e1 S1 => rw [q] at hp; exact hp
      | stuck => rw [q] at hp; exact hp.elim
    · exact hp.elim
end
end TM
namespace TM
open PySem PySem.Spec L2
open PyProof.Rows hiding St

/-! a value to any target -/
def sAsg (t : Tg) (m : Ex) : Sm := fun e S => (m e S).bind fun d e S => match t.asg d e with
  | some e' => .ok .next e' S
  | none => .stuck
theorem semS_asg {X : Cx} {W : WX} {ent : Ent} {tg value : Expr} {m : Ex} {t : Tg} {g : TG} {pos : Pos} (hx : PE X value (rdE X.gb W ent m)) (hg : PG X tg g) (ht : TgR X.gb g t)
    (hs : swapsWithSole [tg] value pos.line X.env = pure false := by rfl) (hw : swappedStores [tg] value X.env = pure none := by rfl) (h1 : (assignEach [tg] X.env).map (·.2) = [assign tg X.env] := by rfl) :
    PS X (.Assign [tg] value pos) (rdS X.gb W ent (sAsg t m)) :=
  (ps_asg hx hg hs hw h1).weak fun Dn σ H ⟨e, S, F, rho, hR, hp⟩ => by
    refine ⟨e, S, F, rho, hR, ?_⟩
    unfold sAsg at hp
    cases q : m e S with
    | ok d e1 S1 =>
      rw [q] at hp
      intro v H' F' rho' r s p rep
      replace hp : postS X.gb W ent F rho Dn (match t.asg d e1 with
        | some e' => .ok .next e' S1
        | none => .stuck) := hp
      cases ha : t.asg d e1 with
      | none => rw [ha] at hp; exact hp.elim
      | some e' =>
        rw [ha] at hp
        exact ht r rep ha fun σ' r' _ _ => hp σ' H' F' rho' r' s p
    | exc x e1 S1 => rw [q] at hp; exact hp σ
    | stuck => rw [q] at hp; exact hp

/-! names, and a tuple target last, by values written out -/
theorem WRL.split {G : Gb} {ent : Ent} {rho : List Addr} {F H : Hp} {e : Env} {σ : L2.St} {s : Slot} : ∀ {ss : List Slot} {vs : List V}, WRL G ent rho F H e σ vs (ss ++ [s]) → ∃ vs' v, vs = vs' ++ [v] ∧ WRL G ent rho F H e σ vs' ss ∧ WRep G ent rho F H e σ v s
  | [], vs, h => by
    cases h with
    | cons r t d => cases t; exact ⟨[], _, rfl, .nil, r⟩
  | a :: ss, vs, h => by
    cases h with
    | @cons v0 _ vs0 _ r t d =>
      obtain ⟨vs', v, rfl, h2, h3⟩ := WRL.split t
      refine ⟨v0 :: vs', v, rfl, .cons r h2 fun b j u hs ev hj hu hv => ?_, h3⟩
      have hjl : j < ss.length := (List.getElem?_eq_some_iff.mp hj).1
      have hjv : j < vs'.length := (List.getElem?_eq_some_iff.mp hv).1
      exact d b j u hs ev (by show (ss ++ [s])[j]? = _; rw [List.getElem?_append_left hjl]; exact hj) hu (by rw [List.getElem?_append_left hjv]; exact hv)
def gNamesL (g : TG) : List Nat → TGs
  | [] => gCons g gNil
  | i :: is => gCons (gName i) (gNamesL g is)
theorem gNamesL_of {g : TG} {v : V} : ∀ {is : List Nat} {vs : List V} {σ : L2.St} {H : Hp} {Q : L2.St → Hp → Prop}, vs.length = is.length → g v (setAll is vs σ) H (fun σ' H' => ([] : List V) = [] ∧ Q σ' H') → gNamesL g is (vs ++ [v]) σ H Q
  | [], [], σ, H, Q, _, h => ⟨v, [], rfl, h⟩
  | i :: is, u :: vs, σ, H, Q, hl, h => ⟨u, vs ++ [v], rfl, gNamesL_of (by simpa using hl) h⟩
  | [], _ :: _, _, _, _, hl, _ => by simp at hl
  | _ :: _, [], _, _, _, hl, _ => by simp at hl
/-- i, j, .. (names), then a target, by values -/
def sParL (is : List Nat) (t : Tg) (ms : List Wx) (m : Ex) : Sm := fun e S => (evW ms e S).bind fun ss e S => (m e S).bind fun d e S => match t.asg d (setAll is ss e) with
  | some e' => .ok .next e' S
  | none => .stuck
theorem evW_snoc (m : Ex) : ∀ (ms : List Wx) (e : Env) (S : Sto), evW (ms ++ [wVal m]) e S = (evW ms e S).bind fun ss e S => (m e S).bind fun d e S => .ok (ss ++ [.val d]) e S
  | [], e, S => by
    show ((m e S).bind fun d e S => Out.ok (Slot.val d) e S).bind _ = (m e S).bind _
    cases m e S <;> rfl
  | n :: ms, e, S => by
    show (n e S).bind _ = ((n e S).bind _).bind _
    cases n e S with
    | ok s e1 S1 =>
      show (evW (ms ++ [wVal m]) e1 S1).bind _ = ((evW ms e1 S1).bind _).bind _
      rw [evW_snoc m ms e1 S1]
      cases evW ms e1 S1 with
      | ok ss e2 S2 =>
        show ((m e2 S2).bind _).bind _ = (m e2 S2).bind _
        cases m e2 S2 <;> rfl
      | exc _ _ _ => rfl
      | stuck => rfl
    | exc _ _ _ => rfl
    | stuck => rfl
theorem semS_parL {X : Cx} {W : WX} {ent : Ent} {ts es : List Expr} {is : List Nat} {t : Tg} {g : TG} {ms : List Wx} {m : Ex} {pos pt pt2 : Pos} {kt k2} (hc : X.calm = true) (hl : is.length = ms.length) (hz : ms.length + 1 ≤ sizeLine) (hg : PGs X ts (gNamesL g is)) (ht : TgR X.gb g t) (ha : WxE X W es (ms ++ [wVal m])) (hls : ts.length = is.length + 1)
    (hn : (assignEach ts X.env).length = is.length + 1) (hst : (assignEach ts X.env).findIdx? (·.1) = none)
    (hw : swappedStores [.Tuple ts kt pt] (.Tuple es k2 pt2) X.env = pure none) (hm : (assignEach [.Tuple ts kt pt] X.env).map (·.2) = [assign (.Tuple ts kt pt) X.env]) :
    PS X (.Assign [.Tuple ts kt pt] (.Tuple es k2 pt2) pos) (rdS X.gb W ent (sParL is t ms m)) :=
  (ps_asg (pe_tup (pa_wx ha)) (pg_tup hc hg hn hst) rfl hw hm).weak fun Dn σ H ⟨e, S, F, rho, hR, hp⟩ => by
    refine tWs_of hR ?_
    rw [evW_snoc]
    unfold sParL at hp
    cases q : evW ms e S with
    | ok ss e1 S1 =>
      rw [q] at hp
      replace hp : postS X.gb W ent F rho Dn ((m e1 S1).bind fun d e S => match t.asg d (setAll is ss e) with
        | some e' => .ok .next e' S
        | none => .stuck) := hp
      show postWs X.gb W ent σ F rho _ ((m e1 S1).bind fun d e S => .ok (ss ++ [.val d]) e S)
      cases q2 : m e1 S1 with
      | ok d e2 S2 =>
        rw [q2] at hp
        replace hp : postS X.gb W ent F rho Dn (match t.asg d (setAll is ss e2) with
          | some e' => .ok .next e' S2
          | none => .stuck) := hp
        intro vs H' F' rho' r s p w
        obtain ⟨vs', v, rfl, w1, w2⟩ := w.split
        have hss : ss.length = ms.length := evW_length q
        have hvs : vs'.length = is.length := by rw [w1.length, hss, hl]
        refine ⟨by rw [List.length_append, List.length_singleton, hvs, hl]; exact hz, fun a ha2 => ⟨a, vs' ++ [v], rfl, .of upd_same, by rw [List.length_append, List.length_singleton, hvs], gNamesL_of hvs ?_⟩⟩
        cases hta : t.asg d (setAll is ss e2) with
        | none => rw [hta] at hp; exact hp.elim
        | some e' =>
          rw [hta] at hp
          have r1 := R.setAll (is := is) (by rw [hl, hss]) r w1
          have rep : Rep X.gb rho' F' v d := w2
          exact ht (r1.lay ha2) rep hta fun σ' r' _ _ => ⟨rfl, hp σ' _ F' rho' r' s p⟩
      | exc x e2 S2 => rw [q2] at hp; exact hp σ
      | stuck => rw [q2] at hp; exact hp
    | exc x e1 S1 => rw [q] at hp; exact hp σ
    | stuck => rw [q] at hp; exact hp
section
variable {X : Cx} {W : WX} {ent : Ent} {Z : En} {N : List Str} {sc : Scope} {fs : Str → Bool} {k : Nat} {pos p pt2 : Pos}
theorem pgs_l {x : Str} {es : List Expr} {i : Nat} {is : List Nat} {g : TG} (c : Bx Z N sc fs k X W) (h : tOk N sc fs i x = true) (t : PGs X es (gNamesL g is)) (hp : plainA (.Name x p) = true := by rfl) : PGs X (.Name x p :: es) (gNamesL g (i :: is)) := pgs_cons (gn c i h) t
theorem sparL {ts es : List Expr} {is : List Nat} {t : Tg} {g : TG} {ms : List Wx} {m : Ex} {pt : Pos} {kt k2} (c : Bx Z N sc fs k X W) (hg : PGs X ts (gNamesL g is)) (ht : TgR X.gb g t) (ha : WxE X W es (ms ++ [wVal m])) (hw : swC sc ts es = some none)
    (hl : is.length = ms.length := by rfl) (hz : ms.length + 1 ≤ sizeLine := by decide) (hls : ts.length = is.length + 1 := by rfl) (hn : (assignEach ts X.env).length = is.length + 1 := by rfl) (hst : (assignEach ts X.env).findIdx? (·.1) = none := by rfl)
    (hm : (assignEach [.Tuple ts kt pt] X.env).map (·.2) = [assign (.Tuple ts kt pt) X.env] := by rfl) :
    PS X (.Assign [.Tuple ts kt pt] (.Tuple es k2 pt2) pos) (rdS X.gb W ent (sParL is t ms m)) :=
  semS_parL c.calm hl hz hg ht ha hls hn hst (sw_of hw c.s) hm
end
end TM
namespace TM
open PySem PySem.Spec L2
open PyProof.Rows hiding St

/-! a tuple's items to names, one of them starred -/
section
variable {P : Program} {w : World} {A : Around} {E : Value → Shared → Prop} {s : Shared}
theorem starT {t : Addr} {xs : Array Value} {n i : Nat} {Q : List Value → Shared → Prop} (T : IsTup s.heap t xs) (hh : A.handled = none) (lt : i < n) (le : n ≤ xs.size + 1) (z : xs.size ≤ sizeLine)
    (q : ∀ (g : Heap) (tk : Nat), (∀ b o, s.heap.get? b = some o → g.get? b = some o) →
      Q (xs.toList.take i ++ [Value.ref g.objs.size] ++ (xs.toList.drop i).drop (xs.size + 1 - n)) { s with heap := g.push { cls := .type "list", data := .seq ((xs.toList.drop i).take (xs.size + 1 - n)).toArray }, toks := tk }) : wpAny (model P w) A (unpackItems (.ref t) n (some i)) Q E s := by
  have l0 : t < s.heap.objs.size := let ⟨_, e, _⟩ := T; Heap.lt_size e
  have l1 : t ≠ s.heap.objs.size := Nat.ne_of_lt l0
  have e1 : (xs.toList.take i).length = i := by simp; omega
  have e2 : (xs.toList.drop i).length = xs.size - i := by simp
  unfold unpackItems notIterableAtAll
  refine wpAny_bind (wpAny_bind (wpAny_specialOf T.typeIs PySem.F.slot_tuple_iter.lookup (wpAny_pure ?_)))
  rw [if_neg (by simp)]
  refine wpAny_bind (wpAny_holding (iter_tuple T ?_))
  refine wpAny_bind (wpAny_holding (draw_tuple l1 i 0 _ _ ⟨_, Heap.get?_push_size _ rfl, rfl, rfl⟩ (T.push _) (by omega) fun g I g1 => ?_))
  have T1 := (T.push _).extBut g1.extBut l1
  rw [Nat.zero_add] at I
  rw [List.drop_zero, if_neg (by rw [e1]; omega)]
  have f1 : s.heap.objs.size < g.objs.size := let ⟨_, e, _⟩ := I; Heap.lt_size e
  have f2 : t < g.objs.size := let ⟨_, e, _⟩ := T1; Heap.lt_size e
  refine wpAny_bind (wpAny_holding (PySem.W.kun_collect (s := { s with heap := g }) (.inr (.inr (.inr rfl))) (Walks.tuple (A := A.in1) hh _ t l1 xs) (fun j u st => st.1.typeIs) (k := i) (by omega) ⟨I, T1⟩ f1 f2 (fun g2 tk k2 => ?_) z))
  dsimp only
  rw [if_neg (by rw [e2]; omega), show (xs.toList.drop i).length - (n - 1 - i) = xs.size + 1 - n by rw [e2]; omega]
  have k3 : ∀ b o, s.heap.get? b = some o → g2.get? b = some o := fun b o e => have l : b < s.heap.objs.size := Heap.lt_size e
    k2 b o (Nat.ne_of_lt l) (g1.extBut b o (Nat.ne_of_lt l) (Heap.get?_push_of_some _ e))
  refine wpAny_bind (wpAny_newObj_type ?_ ?_)
  · exact wpAny_pure (q g2 tk k3)
  · show _ ≤ sizeLine
    simp only [List.size_toArray, List.length_take, e2]
    omega
end
section
variable {X : Cx} {pos : Pos}
/-- to names, the i-th of n starred: a new list of what is between -/
def gStar (K : PySem.W.Frag) (n i : Nat) (t : TGs) : TG := fun v σ H Q => ∃ (a : Addr) (xs : List V), v = .ref a ∧ SqT K H a xs ∧ i < n ∧ n ≤ xs.length + 1 ∧
  ∀ b, H b = none → t (xs.take i ++ [.ref b] ++ (xs.drop i).drop (xs.length + 1 - n)) σ (upd H b (.lst ((xs.drop i).take (xs.length + 1 - n)))) Q
theorem pg_star {es : List Expr} {kt n i : Nat} {t : TGs} (hc : X.calm = true) (h : PGs X es t) (hn : (assignEach es X.env).length = n := by rfl) (hst : (assignEach es X.env).findIdx? (·.1) = some i := by rfl) : PG X (.Tuple es kt pos) (gStar X.K n i t) := by
  refine ⟨fun pins s σ H v u Q J r ⟨a, xs, q1, q2, q3, q4, q5⟩ => ?_⟩
  subst q1
  cases r
  obtain ⟨its, rv, T, z⟩ := J.tuple q2
  have e : its.length = xs.length := rv.length.symm
  rw [assign_Tuple]
  refine wpAny_bind (wpAny_standAt ?_)
  unfold unpack
  rw [hn, hst]
  refine wpAny_bind (wpAny_holding (starT T (J.ok.hd hc) q3 (by simpa [e] using q4) (by simpa [e] using z) fun g tk k => ?_))
  have J1 : Inv X pins σ H { s with heap := g } := J.kept (t' := s.toks) k
  have J2 := J1.laid (o := .lst ((xs.drop i).take (xs.length + 1 - n))) (t' := tk) (fun b o e => Heap.get?_push_of_some { cls := .type "list", data := .seq ((its.drop i).take (xs.length + 1 - n)).toArray } e) (Nat.le_refl _)
    ⟨by rw [List.length_take, List.length_drop]; omega, _, 0, (rv.drop i).take _, Heap.get?_push_size _ rfl⟩
  have f : H g.objs.size = none := J1.hok.fresh (Nat.le_refl _)
  have q6 := h.run pins _ σ _ _ (its.take i ++ [Value.ref g.objs.size] ++ (its.drop i).drop (xs.length + 1 - n)) Q J2 (((rv.take i).append (.cons (show RelV (.ref g.objs.size) (.ref g.objs.size) from rfl) .nil)).append ((rv.drop i).drop _)) (q5 _ f)
  simpa [e] using q6
end
theorem WRL.vals {G : Gb} {ent : Ent} {rho : List Addr} {F H : Hp} {e : Env} {σ : L2.St} {v : V} {s : Slot} (h : WRep G ent rho F H e σ v s) : ∀ {vs : List V} {ds : List D}, RepL G rho F vs ds → WRL G ent rho F H e σ (vs ++ [v]) (ds.map .val ++ [s])
  | _, _, .nil => .cons h .nil fun _ _ _ _ _ e => by simp at e
  | _, _, .cons r t => .cons r (WRL.vals h t) fun _ _ _ e => by cases e
/-- names, the last one starred, by a tuple's items -/
def sStar (is : List Nat) (j : Nat) (m : Ex) : Sm := fun e S => (m e S).bind fun d e S => match d with
  | .tup ds => if is.length ≤ ds.length then .ok .next (setAll (is ++ [j]) ((ds.take is.length).map .val ++ [.own (ds.drop is.length)]) e) S else .stuck
  | _ => .stuck
theorem semS_star {X : Cx} {W : WX} {ent : Ent} {ts : List Expr} {value : Expr} {is : List Nat} {j : Nat} {m : Ex} {pos pt : Pos} {kt} (hc : X.calm = true) (hx : PE X value (rdE X.gb W ent m)) (hg : PGs X ts (gNames (is ++ [j])))
    (hn : (assignEach ts X.env).length = is.length + 1) (hst : (assignEach ts X.env).findIdx? (·.1) = some is.length)
    (hs : swapsWithSole [.Tuple ts kt pt] value pos.line X.env = pure false) (hw : swappedStores [.Tuple ts kt pt] value X.env = pure none) (hm : (assignEach [.Tuple ts kt pt] X.env).map (·.2) = [assign (.Tuple ts kt pt) X.env]) :
    PS X (.Assign [.Tuple ts kt pt] value pos) (rdS X.gb W ent (sStar is j m)) :=
  (ps_asg hx (pg_star hc hg hn hst) hs hw hm).weak fun Dn σ H ⟨e, S, F, rho, hR, hp⟩ => by
    refine ⟨e, S, F, rho, hR, ?_⟩
    unfold sStar at hp
    cases q : m e S with
    | ok d e1 S1 =>
      rw [q] at hp
      intro v H' F' rho' r s p rep
      cases d with
      | tup ds =>
        replace hp : postS X.gb W ent F rho Dn (if is.length ≤ ds.length then .ok .next (setAll (is ++ [j]) ((ds.take is.length).map .val ++ [.own (ds.drop is.length)]) e1) S1 else .stuck) := hp
        split at hp
        · rename_i hl
          cases rep with
          | tup t1 t2 z l =>
            have el := l.length
            refine ⟨_, _, rfl, sqT_mono r.sub t1, Nat.lt_succ_self _, by omega, fun b hb => ?_⟩
            obtain ⟨r2, w2⟩ := r.newL hb (by rw [List.length_drop, el]; exact Nat.le_trans (Nat.sub_le _ _) (by rw [← el]; exact z)) (l.drop is.length)
            have e3 : ∀ {α : Type} (ys : List α), ys.length = ds.length → (ys.drop is.length).take (ys.length + 1 - (is.length + 1)) = ys.drop is.length := fun ys h => List.take_of_length_le (by rw [List.length_drop]; omega)
            have e4 : ∀ {α : Type} (ys : List α), ys.length = ds.length → (ys.drop is.length).drop (ys.length + 1 - (is.length + 1)) = [] := fun ys h => List.drop_eq_nil_of_le (by rw [List.length_drop]; omega)
            rw [e3 _ el, e4 _ el, List.append_nil]
            have w := WRL.vals w2 (l.take is.length)
            refine gNames_of (by simp; omega) (hp _ _ _ rho' (R.setAll (by simp; omega) r2 w) s p)
        · exact hp.elim
      | _ => exact hp.elim
    | exc x e1 S1 => rw [q] at hp; exact hp σ
    | stuck => rw [q] at hp; exact hp
theorem WRL.allV {G : Gb} {ent : Ent} {rho : List Addr} {F H : Hp} {e : Env} {σ : L2.St} : ∀ {vs : List V} {ds : List D}, RepL G rho F vs ds → WRL G ent rho F H e σ vs (ds.map .val)
  | _, _, .nil => .nil
  | _, _, .cons r t => .cons r (WRL.allV t) fun _ _ _ e => by cases e
/-- names, by the items of a list -/
def sLst (is : List Nat) (m : Ex) : Sm := fun e S => (m e S).bind fun d e S => match d with
  | .lst ds => if ds.length = is.length then .ok .next (setAll is (ds.map .val) e) S else .stuck
  | _ => .stuck
theorem semS_lstT {X : Cx} {W : WX} {ent : Ent} {ts : List Expr} {value : Expr} {is : List Nat} {m : Ex} {pos pt : Pos} {kt} (hc : X.calm = true) (hx : PE X value (rdE X.gb W ent m)) (hg : PGs X ts (gNames is))
    (hn : (assignEach ts X.env).length = is.length) (hst : (assignEach ts X.env).findIdx? (·.1) = none)
    (hs : swapsWithSole [.Tuple ts kt pt] value pos.line X.env = pure false) (hw : swappedStores [.Tuple ts kt pt] value X.env = pure none) (hm : (assignEach [.Tuple ts kt pt] X.env).map (·.2) = [assign (.Tuple ts kt pt) X.env]) :
    PS X (.Assign [.Tuple ts kt pt] value pos) (rdS X.gb W ent (sLst is m)) :=
  (ps_asg hx (pg_lst hc hg hn hst) hs hw hm).weak fun Dn σ H ⟨e, S, F, rho, hR, hp⟩ => by
    refine ⟨e, S, F, rho, hR, ?_⟩
    unfold sLst at hp
    cases q : m e S with
    | ok d e1 S1 =>
      rw [q] at hp
      intro v H' F' rho' r s p rep
      cases d with
      | lst ds =>
        replace hp : postS X.gb W ent F rho Dn (if ds.length = is.length then .ok .next (setAll is (ds.map .val) e1) S1 else .stuck) := hp
        split at hp
        · rename_i hl
          cases rep with
          | lst t1 z l =>
            have el := l.length
            exact ⟨_, _, rfl, sqL_mono r.sub t1, el.trans hl, gNames_of (el.trans hl) (hp _ _ _ rho' (R.setAll (by simp; omega) r (WRL.allV l)) s p)⟩
        · exact hp.elim
      | _ => exact hp.elim
    | exc x e1 S1 => rw [q] at hp; exact hp σ
    | stuck => rw [q] at hp; exact hp
section
variable {X : Cx} {W : WX} {ent : Ent} {Z : En} {N : List Str} {sc : Scope} {fs : Str → Bool} {k : Nat} {pos p pt2 : Pos}
theorem pgs_s {x : Str} {i : Nat} (c : Bx Z N sc fs k X W) (h : tOk N sc fs i x = true) : PGs X [.Starred (.Name x p) pt2] (gNames [i]) := by
  have a : PGs X [.Name x p] (gNames [i]) := pgs_cons (gn c i h) pgs_nil
  exact ⟨fun pins s σ H vs us Q I r q => a.run pins s σ H vs us Q I r q⟩
theorem sstar {ts : List Expr} {value : Expr} {is : List Nat} {j : Nat} {m : Ex} {pt : Pos} {kt} (c : Bx Z N sc fs k X W) (hx : PE X value (rdE X.gb W ent m)) (hg : PGs X ts (gNames (is ++ [j])))
    (hn : (assignEach ts X.env).length = is.length + 1 := by rfl) (hst : (assignEach ts X.env).findIdx? (·.1) = some is.length := by rfl)
    (hs : swapsWithSole [.Tuple ts kt pt] value pos.line X.env = pure false := by rfl) (hw : swappedStores [.Tuple ts kt pt] value X.env = pure none := by rfl) (hm : (assignEach [.Tuple ts kt pt] X.env).map (·.2) = [assign (.Tuple ts kt pt) X.env] := by rfl) :
    PS X (.Assign [.Tuple ts kt pt] value pos) (rdS X.gb W ent (sStar is j m)) := semS_star c.calm hx hg hn hst hs hw hm
theorem slstT {ts : List Expr} {value : Expr} {is : List Nat} {m : Ex} {pt : Pos} {kt} (c : Bx Z N sc fs k X W) (hx : PE X value (rdE X.gb W ent m)) (hg : PGs X ts (gNames is))
    (hn : (assignEach ts X.env).length = is.length := by rfl) (hst : (assignEach ts X.env).findIdx? (·.1) = none := by rfl)
    (hs : swapsWithSole [.Tuple ts kt pt] value pos.line X.env = pure false := by rfl) (hw : swappedStores [.Tuple ts kt pt] value X.env = pure none := by rfl) (hm : (assignEach [.Tuple ts kt pt] X.env).map (·.2) = [assign (.Tuple ts kt pt) X.env] := by rfl) :
    PS X (.Assign [.Tuple ts kt pt] value pos) (rdS X.gb W ent (sLst is m)) := semS_lstT c.calm hx hg hn hst hs hw hm
end
end TM
namespace TM
open PySem PySem.Spec L2
open PyProof.Rows hiding St
mutual
def D.noRef : D → Bool
  | .non | .bl _ | .int _ | .str _ => true
  | .tup ds => noRefs ds
  | .lst ds => noRefs ds
  | _ => false
def noRefs : List D → Bool
  | [] => true
  | d :: ds => d.noRef && noRefs ds
end
def lentS : Option Slot → Option Slot
  | some (.val d) => if d.noRef then some (.val d) else none
  | some (.own ds) => if noRefs ds then some (.val (.lst ds)) else none
  | _ => none
def tLend (t : Tx) : Tx := fun e S => match t (e.map lentS) [] with
  | .ok b _ _ => .ok b e S
  | _ => .stuck
mutual
theorem Rep.low {G : Gb} {rho rho' : List Addr} {F F' : Hp} (s : Sub F F') : ∀ {v : V} {d : D}, Rep G rho F v d → d.noRef = true → Rep G rho' F' v d
  | _, _, .non, _ => .non
  | _, _, .bl _, _ => .bl _
  | _, _, .int _, _ => .int _
  | _, _, .str _, _ => .str _
  | _, _, .tup a b z l, h => .tup (sqT_mono s a) (fun k => s _ _ (b k)) z (RepL.low s l (by simpa [D.noRef] using h))
  | _, _, .lst a z l, h => .lst (sqL_mono s a) z (RepL.low s l (by simpa [D.noRef] using h))
theorem RepL.low {G : Gb} {rho rho' : List Addr} {F F' : Hp} (s : Sub F F') : ∀ {v : List V} {d : List D}, RepL G rho F v d → noRefs d = true → RepL G rho' F' v d
  | _, _, .nil, _ => .nil
  | _, _, .cons r t, h => by
    simp only [noRefs, Bool.and_eq_true] at h
    exact .cons (Rep.low s r h.1) (RepL.low s t h.2)
end
theorem lent_val {o : Option Slot} {s : Slot} (q : lentS o = some s) : s.isVal = true := by
  unfold lentS at q
  split at q
  · split at q <;> cases q; rfl
  · split at q <;> cases q; rfl
  · cases q
theorem lent_at {e : Env} {i : Nat} {s : Slot} (q : (e.map lentS)[i]? = some (some s)) : s.isVal = true := by
  rw [List.getElem?_map] at q
  cases hi : e[i]? with
  | none => rw [hi] at q; cases q
  | some o => rw [hi] at q; exact lent_val (by injection q)
theorem semT_lend {X : Cx} {W : WX} {ent : Ent} {cd : Expr} {t : Tx} (h : ∀ ent, PT X cd (rdT X.gb W ent t)) : PT X cd (rdT X.gb W ent (tLend t)) :=
  ⟨fun pins s σ H Q I ⟨e, S, F, rho, r, hp⟩ => (h ⟨fun _ _ => False, H, []⟩).run pins s σ H Q I ⟨e.map lentS, [], H, [], {
    len := by rw [List.length_map]; exact r.len
    sub := Sub.refl _
    val := fun i d q => by
      rw [List.getElem?_map] at q
      cases hi : e[i]? with
      | none => rw [hi] at q; cases q
      | some o =>
        rw [hi] at q
        replace q : lentS o = some (.val d) := by injection q
        unfold lentS at q
        split at q
        · split at q
          · rename_i hn
            cases q
            obtain ⟨v, a, b⟩ := r.val i _ hi
            exact ⟨v, a, b.low r.sub hn⟩
          · cases q
        · split at q
          · rename_i hn
            cases q
            obtain ⟨a, k, ⟨xs, x1, x2, x3⟩, _⟩ := r.own i _ hi rfl
            exact ⟨_, k, .lst (.inl (.of x1)) x2 (x3.low r.sub hn)⟩
          · cases q
        · cases q
    own := fun i s q hs => by rw [lent_at q] at hs; cases hs
    sep := fun i j s t a q hs => by rw [lent_at q] at hs; cases hs
    slen := rfl
    sto := fun n o a q => by cases q
    nod := .nil
    keep := fun _ _ q => q.elim
    sub0 := Sub.refl _
    pre0 := Pre.refl _ }, by
    unfold tLend at hp
    cases q : t (e.map lentS) [] with
    | ok b e1 S1 =>
      rw [q] at hp
      intro H' F' rho' r' sb pr
      have sH : Sub H H' := fun a o k => r'.sub a o (sb a o k)
      have at_ : ∀ a, H a ≠ none → H' a = H a := fun a k => by
        cases k2 : H a with
        | none => exact (k k2).elim
        | some o => exact sH a o k2
      exact hp H' F rho { r with
        sub := r.sub.trans sH
        own := fun i s k hs => by
          obtain ⟨a, k1, k2, k3⟩ := r.own i s k hs
          exact ⟨a, k1, k2.mono (Sub.refl _) (Pre.refl _) (at_ a k2.isob), k3⟩
        sto := fun n o a k1 k2 => by
          obtain ⟨k3, k4⟩ := r.sto n o a k1 k2
          exact ⟨k3.mono (Sub.refl _) (Pre.refl _) (at_ a k3.isob), k4⟩
        keep := fun a o k => by
          obtain ⟨k1, k2⟩ := r.keep a o k
          exact ⟨sH a o k1, k2⟩ } (Sub.refl _) (Pre.refl _)
    | exc x e1 S1 => rw [q] at hp; exact hp.elim
    | stuck => rw [q] at hp; exact hp.elim⟩⟩
end TM
namespace TM
open PySem PySem.Spec L2
open PyProof.Rows hiding St

/-! ### equality of plain data -/
mutual
/-- no truths, nothing but data -/
def D.nb : D → Bool
  | .non => true | .int _ => true | .str _ => true
  | .tup ds => D.nbs ds | .lst ds => D.nbs ds
  | _ => false
def D.nbs : List D → Bool
  | [] => true
  | d :: ds => d.nb && D.nbs ds
end
mutual
theorem eqv_nb : ∀ {d e : D}, d.nb = true → e.nb = true → (PyData.eqv d.py e.py = true ↔ d = e)
  | .non, e, _, h => by cases e <;> simp [D.nb, D.py, PyData.eqv] at h ⊢
  | .int i, e, _, h => by cases e <;> simp [D.nb, D.py, PyData.eqv] at h ⊢
  | .str i, e, _, h => by cases e <;> simp [D.nb, D.py, PyData.eqv] at h ⊢
  | .tup ds, e, g, h => by
    cases e <;> simp [D.nb, D.py, PyData.eqv] at h ⊢
    exact eqvs_nb (by simpa [D.nb] using g) h
  | .lst ds, e, g, h => by
    cases e <;> simp [D.nb, D.py, PyData.eqv] at h ⊢
    exact eqvs_nb (by simpa [D.nb] using g) h
  | .bl _, _, g, _ => by cases g
  | .dct _ _, _, g, _ => by cases g
  | .dctt _ _, _, g, _ => by cases g
  | .ref _, _, g, _ => by cases g
  | .fn _, _, g, _ => by cases g
  | .cls _, _, g, _ => by cases g
  | .ty _, _, g, _ => by cases g
  | .exn _ _ _, _, g, _ => by cases g
theorem eqvs_nb : ∀ {ds es : List D}, D.nbs ds = true → D.nbs es = true → (PyData.eqvAll (D.pys ds) (D.pys es) = true ↔ ds = es)
  | [], [], _, _ => by simp [D.pys, PyData.eqvAll]
  | [], _ :: _, _, _ => by simp [D.pys, PyData.eqvAll]
  | _ :: _, [], _, _ => by simp [D.pys, PyData.eqvAll]
  | d :: ds, e :: es, g, h => by
    simp only [D.nbs, Bool.and_eq_true] at g h
    simp only [D.pys, PyData.eqvAll, Bool.and_eq_true, List.cons.injEq, eqv_nb g.1 h.1, eqvs_nb g.2 h.2]
end
/-- data that may be compared -/
def D.cmpb (d : D) : Bool := d.nb && d.shp
theorem eqv_cmp {x y : D} (hx : x.cmpb = true) (hy : y.cmpb = true) [Decidable (x = y)] : PyData.eqv x.py y.py = decide (x = y) := by
  unfold D.cmpb at hx hy
  rw [Bool.and_eq_true] at hx hy
  have := eqv_nb hx.1 hy.1
  by_cases e : x = y
  · rw [decide_eq_true e, this.mpr e]
  · rw [decide_eq_false e]
    cases q : PyData.eqv x.py y.py with
    | false => rfl
    | true => exact absurd (this.mp q) e
theorem eqB_cmp {x y : D} (hx : x.cmpb = true) (hy : y.cmpb = true) [Decidable (x = y)] : fEqB x y = some (decide (x = y)) := by
  have e := eqv_cmp hx hy
  unfold D.cmpb at hx hy
  rw [Bool.and_eq_true] at hx hy
  unfold fEqB
  split
  · rename_i a b
    congr 1
  · rw [if_pos ⟨hx.2, hy.2⟩, e]
theorem eq_cmp {x y : D} (hx : x.cmpb = true) (hy : y.cmpb = true) [Decidable (x = y)] : fEq [x, y] = some (.bl (decide (x = y))) := by
  show (fEqB x y).map D.bl = _
  rw [eqB_cmp hx hy]; rfl
theorem ne_cmp {x y : D} (hx : x.cmpb = true) (hy : y.cmpb = true) [Decidable (x = y)] : fNe [x, y] = some (.bl (!decide (x = y))) := by
  show (fEqB x y).map (fun b => D.bl (!b)) = _
  rw [eqB_cmp hx hy]; rfl
theorem cmpb_mk {d : D} (h1 : d.nb = true) (h2 : d.dat = true) (h3 : d.dep ≤ 64) : d.cmpb = true := by
  unfold D.cmpb D.shp
  rw [h1, h2, decide_eq_true h3]; rfl
theorem nbs_all {ds : List D} (h : ∀ d ∈ ds, d.nb = true) : D.nbs ds = true := by
  induction ds with
  | nil => rfl
  | cons d ds ih =>
    show (d.nb && D.nbs ds) = true
    rw [h d List.mem_cons_self, ih fun e he => h e (List.mem_cons_of_mem _ he)]; rfl
theorem dats_all {ds : List D} (h : ∀ d ∈ ds, d.dat = true) : D.dats ds = true := by
  induction ds with
  | nil => rfl
  | cons d ds ih =>
    show (d.dat && D.dats ds) = true
    rw [h d List.mem_cons_self, ih fun e he => h e (List.mem_cons_of_mem _ he)]; rfl
theorem deps_all {ds : List D} {k : Nat} (h : ∀ d ∈ ds, d.dep ≤ k) : D.deps ds ≤ k := by
  induction ds with
  | nil => exact Nat.zero_le _
  | cons d ds ih =>
    show max d.dep (D.deps ds) ≤ k
    have := h d List.mem_cons_self
    have := ih fun e he => h e (List.mem_cons_of_mem _ he)
    omega
/-- well formed, of such a depth: no truths, texts that stand -/
structure Wf (k : Nat) (d : D) : Prop where
  nb : d.nb = true
  dat : d.dat = true
  dep : d.dep ≤ k
theorem Wf.cmp {k : Nat} {d : D} (h : Wf k d) (hk : k ≤ 64 := by decide) : d.cmpb = true := cmpb_mk h.nb h.dat (Nat.le_trans h.dep hk)
theorem Wf.mono {k l : Nat} {d : D} (h : Wf k d) (hk : k ≤ l) : Wf l d := ⟨h.nb, h.dat, Nat.le_trans h.dep hk⟩
theorem Wf.tup {k : Nat} {ds : List D} (h : ∀ d ∈ ds, Wf k d) : Wf (k + 1) (.tup ds) := ⟨nbs_all fun d hd => (h d hd).nb, dats_all fun d hd => (h d hd).dat, Nat.succ_le_succ (deps_all fun d hd => (h d hd).dep)⟩
theorem Wf.lst {k : Nat} {ds : List D} (h : ∀ d ∈ ds, Wf k d) : Wf (k + 1) (.lst ds) := ⟨nbs_all fun d hd => (h d hd).nb, dats_all fun d hd => (h d hd).dat, Nat.succ_le_succ (deps_all fun d hd => (h d hd).dep)⟩
theorem Wf.int (i : Int) : Wf 0 (.int i) := ⟨rfl, rfl, Nat.le_refl _⟩
theorem Wf.non : Wf 0 .non := ⟨rfl, rfl, Nat.le_refl _⟩
theorem strOk_of {x : Str} (h : ∀ c ∈ x.cps.toList, c < 0x110000) : PyData.strOk x = true := by
  unfold PyData.strOk
  rw [Array.all_eq_true']
  intro c hm
  exact decide_eq_true (h c (Array.mem_toList_iff.mpr hm))
theorem Wf.str {x : Str} (h : ∀ c ∈ x.cps.toList, c < 0x110000) : Wf 0 (.str x) := ⟨rfl, strOk_of h, Nat.le_refl _⟩

/-! ### loops that fold -/
theorem forL_step {t : Tg} {m : Sm} {d : D} {e e1 e2 : Env} {S S2 : Sto} (h1 : t.asg d e = some e1) (h2 : m e1 S = .ok .next e2 S2) (ds : List D) : forL t m (d :: ds) e S = forL t m ds e2 S2 := by
  rw [forL, h1]
  simp only [h2, bind_ok]
theorem forL_fold {α σ : Type} {t : Tg} {m : Sm} {S : Sto} (enc : α → D) (E : σ → Env) (step : σ → α → σ) (P : Nat → σ → Prop) : ∀ (xs : List α) (i : Nat) (s : σ), P i s →
    (∀ i s x, x ∈ xs → P i s → (∃ e1, t.asg (enc x) (E s) = some e1 ∧ m e1 S = .ok .next (E (step s x)) S) ∧ P (i + 1) (step s x)) →
    (∀ ds, forL t m (xs.map enc ++ ds) (E s) S = forL t m ds (E (xs.foldl step s)) S) ∧ P (i + xs.length) (xs.foldl step s)
  | [], i, s, h, _ => ⟨fun _ => rfl, h⟩
  | x :: xs, i, s, h, hs => by
    obtain ⟨⟨e1, h1, h2⟩, h3⟩ := hs i s x List.mem_cons_self h
    obtain ⟨k1, k2⟩ := forL_fold enc E step P xs (i + 1) (step s x) h3 fun i s y hy => hs i s y (List.mem_cons_of_mem _ hy)
    refine ⟨fun ds => ?_, by rw [List.length_cons, show i + (xs.length + 1) = i + 1 + xs.length by omega]; exact k2⟩
    rw [List.map_cons, List.cons_append, forL_step h1 h2, k1]
    rfl
theorem forL_rel {α σ : Type} {t : Tg} {m : Sm} (enc : α → D) (R : Nat → σ → Env → Sto → Prop) (step : σ → α → σ) : ∀ (xs : List α) (i : Nat) (s : σ) (e : Env) (S : Sto), R i s e S →
    (∀ j s e S x, x ∈ xs → j < i + xs.length → R j s e S → ∃ e1 e2 S2, t.asg (enc x) e = some e1 ∧ m e1 S = .ok .next e2 S2 ∧ R (j + 1) (step s x) e2 S2) →
    ∃ e' S', (∀ ds, forL t m (xs.map enc ++ ds) e S = forL t m ds e' S') ∧ R (i + xs.length) (xs.foldl step s) e' S'
  | [], i, s, e, S, h, _ => ⟨e, S, fun _ => rfl, h⟩
  | x :: xs, i, s, e, S, h, hs => by
    obtain ⟨e1, e2, S2, h1, h2, h3⟩ := hs i s e S x List.mem_cons_self (by simp) h
    obtain ⟨e', S', k1, k2⟩ := forL_rel enc R step xs (i + 1) (step s x) e2 S2 h3 fun j s e S y hy hj => hs j s e S y (List.mem_cons_of_mem _ hy) (by rw [List.length_cons]; omega)
    refine ⟨e', S', fun ds => ?_, by rw [List.length_cons, show i + (xs.length + 1) = i + 1 + xs.length by omega]; exact k2⟩
    rw [List.map_cons, List.cons_append, forL_step h1 h2, k1]
theorem forL_end {t : Tg} {m : Sm} {ds : List D} {e e' : Env} {S S' : Sto} (h : ∀ ms, forL t m (ds ++ ms) e S = forL t m ms e' S') : forL t m ds e S = .ok .next e' S' := by
  have := h []
  rw [List.append_nil] at this
  rw [this]; rfl
/-- a loop by an invariant; what leaves it early is told -/
theorem forL_inv {t : Tg} {m : Sm} (I : Nat → Env → Sto → Prop) (Q : Out Fl → Prop) : ∀ (ds : List D) (i : Nat) (e : Env) (S : Sto), I i e S →
    (∀ (j : Nat) (d : D) (e : Env) (S : Sto), ds[j]? = some d → I (i + j) e S → ∃ e1, t.asg d e = some e1 ∧ ∃ f e2 S2, m e1 S = .ok f e2 S2 ∧ match f with
      | .next => I (i + j + 1) e2 S2
      | .cont => I (i + j + 1) e2 S2
      | .brk => Q (.ok .next e2 S2)
      | .ret s => Q (.ok (.ret s) e2 S2)) → (∀ e S, I (i + ds.length) e S → Q (.ok .next e S)) → Q (forL t m ds e S)
  | [], i, e, S, h, _, hq => hq e S h
  | d :: ds, i, e, S, h, hs, hq => by
    obtain ⟨e1, h1, f, e2, S2, h2, h3⟩ := hs 0 d e S rfl h
    have go : I (i + 1) e2 S2 → Q (forL t m ds e2 S2) := fun h3 => forL_inv I Q ds (i + 1) e2 S2 h3 (fun j d e S hd hI => by
      have := hs (j + 1) d e S (by simpa using hd) (by rw [show i + (j + 1) = i + 1 + j by omega]; exact hI)
      rw [show i + (j + 1) + 1 = i + 1 + j + 1 by omega] at this
      exact this) fun e S hI => hq e S (by rw [List.length_cons, show i + (ds.length + 1) = i + 1 + ds.length by omega]; exact hI)
    rw [forL, h1]
    simp only [h2, bind_ok]
    cases f with
    | next => exact go h3
    | cont => exact go h3
    | brk => exact h3
    | ret s => exact h3

/-- a comprehension over coded things, filtered -/
theorem compL_map {α : Type} {vs : List Nat} {t : Tg} {tt : Tx} {m : Ex} {e0 : Env} {S : Sto} (enc : α → D) (c : α → Bool) (y : α → D) : ∀ (xs : List α) (acc : List D), acc.length + xs.length ≤ 16777216 →
    (∀ a ∈ xs, ∃ e1 e2 e3, t.asg (enc a) e0 = some e1 ∧ tt e1 S = .ok (c a) e2 S ∧ (c a = true → m e2 S = .ok (y a) e3 S ∧ wipeE e3 vs = e0) ∧ (c a = false → wipeE e2 vs = e0)) →
    compL vs t tt (turn1 m) (xs.map enc) acc e0 S = .ok (acc ++ (xs.filter c).map y) e0 S
  | [], acc, _, _ => by rw [List.filter_nil, List.map_nil, List.map_nil, List.append_nil]; rfl
  | a :: xs, acc, hz, h => by
    rw [List.length_cons] at hz
    obtain ⟨e1, e2, e3, h1, h2, h3, h4⟩ := h a List.mem_cons_self
    rw [List.map_cons, compL, h1]
    by_cases q : c a = true
    · obtain ⟨k1, k2⟩ := h3 q
      have ha : acc.length < sizeLine := by rw [sizeLine_eq]; omega
      rw [q] at h2
      simp only [h2, turn1, k1, if_pos ha, k2]
      rw [List.filter_cons_of_pos q, List.map_cons, show acc ++ y a :: (xs.filter c).map y = acc ++ [y a] ++ (xs.filter c).map y by simp]
      exact compL_map enc c y xs (acc ++ [y a]) (by rw [List.length_append, List.length_singleton]; omega) fun b hb => h b (List.mem_cons_of_mem _ hb)
    · rw [Bool.not_eq_true] at q
      rw [q] at h2
      simp only [h2, h4 q]
      rw [List.filter_cons_of_neg (by rw [q]; exact Bool.false_ne_true)]
      exact compL_map enc c y xs acc (by omega) fun b hb => h b (List.mem_cons_of_mem _ hb)
/-- .. all of them -/
theorem compL_all {α : Type} {vs : List Nat} {t : Tg} {m : Ex} {e0 : Env} {S : Sto} (enc : α → D) (y : α → D) (xs : List α) (acc : List D) (hz : acc.length + xs.length ≤ 16777216)
    (h : ∀ a ∈ xs, ∃ e1 e3, t.asg (enc a) e0 = some e1 ∧ m e1 S = .ok (y a) e3 S ∧ wipeE e3 vs = e0) : compL vs t bTT (turn1 m) (xs.map enc) acc e0 S = .ok (acc ++ xs.map y) e0 S := by
  rw [compL_map enc (fun _ => true) y xs acc hz fun a ha => ?_]
  · rw [List.filter_eq_self.mpr fun _ _ => rfl]
  · obtain ⟨e1, e3, h1, h2, h3⟩ := h a ha
    exact ⟨e1, e1, e3, h1, rfl, fun _ => ⟨h2, h3⟩, fun z => by cases z⟩

/-! ### slices, indices -/
theorem cut_mid {α : Type} (xs : List α) (a k : Nat) : cutL xs (some (a : Int)) (some (k : Int)) = (xs.take k).drop a := by
  unfold cutL
  rw [HT.sIx_nat, HT.sIx_nat, List.drop_take]
  by_cases h1 : a ≤ xs.length
  · rw [Nat.min_eq_left h1]
    by_cases h2 : k ≤ xs.length
    · rw [Nat.min_eq_left h2]
    · rw [Nat.min_eq_right (by omega), List.take_of_length_le (by rw [List.length_drop]; omega), List.take_of_length_le (by rw [List.length_drop]; omega)]
  · rw [Nat.min_eq_right (by omega : xs.length ≤ a), List.drop_of_length_le (by omega), List.drop_of_length_le (by omega)]
    simp
theorem sl_mid_t (ds : List D) (a k : Nat) : fSl11 [.tup ds, .int (a : Nat), .int (k : Nat)] = some (.tup ((ds.take k).drop a)) := by
  show some (D.tup (cutL ds (some (a : Int)) (some (k : Int)))) = _
  rw [cut_mid]
theorem sl_mid_l (ds : List D) (a k : Nat) : fSl11 [.lst ds, .int (a : Nat), .int (k : Nat)] = some (.lst ((ds.take k).drop a)) := by
  show some (D.lst (cutL ds (some (a : Int)) (some (k : Int)))) = _
  rw [cut_mid]
theorem ixN_last {n : Nat} (h : 0 < n) : ixN n (-1) = some (n - 1) := by
  unfold ixN
  rw [if_neg (by omega), if_pos (by omega)]
  congr 1
  omega
theorem atI_last {α : Type} (xs : List α) : atI xs (-1) = xs.getLast? := by
  cases xs with
  | nil => rfl
  | cons a l =>
    unfold atI
    rw [ixN_last (by simp), List.getLast?_eq_getElem?]
    rfl
theorem fIx_last (ds : List D) : fIx [.lst ds, .int (-1)] = ds.getLast? := atI_last ds
end TM
namespace TM.Row
open PySem

/-! ### the longest common rows, plainly -/
def lcs : List Str → List Str → Nat
  | [], _ => 0
  | _ :: _, [] => 0
  | x :: xs, y :: ys => if x = y then lcs xs ys + 1 else max (lcs xs (y :: ys)) (lcs (x :: xs) ys)
termination_by xs ys => xs.length + ys.length
theorem lcs_nil (xs : List Str) : lcs xs [] = 0 := by cases xs <;> simp [lcs]
theorem lcs_nil' (ys : List Str) : lcs [] ys = 0 := by simp [lcs]
theorem lcs_comm : ∀ xs ys : List Str, lcs xs ys = lcs ys xs
  | [], ys => by rw [lcs_nil, lcs_nil']
  | x :: xs, [] => by rw [lcs_nil, lcs_nil']
  | x :: xs, y :: ys => by
    rw [lcs, lcs]
    by_cases h : x = y
    · rw [if_pos h, if_pos h.symm, lcs_comm xs ys]
    · rw [if_neg h, if_neg (fun e => h e.symm), lcs_comm xs (y :: ys), lcs_comm (x :: xs) ys, Nat.max_comm]
termination_by xs ys => xs.length + ys.length
theorem lcs_self : ∀ xs : List Str, lcs xs xs = xs.length
  | [] => by simp [lcs]
  | x :: xs => by rw [lcs, if_pos rfl, lcs_self xs]; rfl
/-- by places -/
def L (one other : List Str) (i j : Nat) : Nat := lcs (one.drop i) (other.drop j)
section
variable {one other : List Str}
theorem L_out1 {i j : Nat} (h : one.length ≤ i) : L one other i j = 0 := by unfold L; rw [List.drop_of_length_le h, lcs_nil']
theorem L_out2 {i j : Nat} (h : other.length ≤ j) : L one other i j = 0 := by unfold L; rw [List.drop_of_length_le h, lcs_nil]
theorem L_step {i j : Nat} (hi : i < one.length) (hj : j < other.length) : L one other i j = if one[i] = other[j] then L one other (i + 1) (j + 1) + 1 else max (L one other (i + 1) j) (L one other i (j + 1)) := by
  unfold L
  rw [List.drop_eq_getElem_cons hi, List.drop_eq_getElem_cons hj, lcs]
/-- a like pair -/
def Like (one other : List Str) (p : Nat × Nat) : Prop := ∃ x, one[p.1]? = some x ∧ other[p.2]? = some x
def Cond (one other : List Str) (i j : Nat) (p : Nat × Nat) : Prop := i ≤ p.1 ∧ j ≤ p.2 ∧ L one other (p.1 + 1) (p.2 + 1) + 1 = L one other i j
def Lex (p q : Nat × Nat) : Prop := p.1 < q.1 ∨ (p.1 = q.1 ∧ p.2 < q.2)
theorem Lex.irr {p : Nat × Nat} (h : Lex p p) : False := by unfold Lex at h; omega
theorem Lex.trans {p q r : Nat × Nat} (h : Lex p q) (k : Lex q r) : Lex p r := by unfold Lex at *; omega
theorem Lex.tri {p q : Nat × Nat} (h : ¬ Lex p q) (k : ¬ Lex q p) : p = q := by
  unfold Lex at *
  apply Prod.ext <;> omega
def First (one other : List Str) (i j : Nat) (p : Nat × Nat) : Prop := Like one other p ∧ Cond one other i j p ∧ ∀ q, Like one other q → Cond one other i j q → ¬ Lex q p
theorem First.uniq {i j : Nat} {p q : Nat × Nat} (h : First one other i j p) (k : First one other i j q) : p = q := Lex.tri (k.2.2 p h.1 h.2.1) (h.2.2 q k.1 k.2.1)
/-- the row, from places on -/
inductive Chain (one other : List Str) : Nat → Nat → List (Nat × Nat) → Prop
  | nil {i j : Nat} : L one other i j = 0 → Chain one other i j []
  | cons {i j : Nat} {p : Nat × Nat} {l : List (Nat × Nat)} : First one other i j p → Chain one other (p.1 + 1) (p.2 + 1) l → Chain one other i j (p :: l)
theorem Chain.len {i j : Nat} {l : List (Nat × Nat)} (h : Chain one other i j l) : l.length = L one other i j := by
  induction h with
  | nil h => exact h.symm
  | cons f _ ih => rw [List.length_cons, ih]; exact f.2.1.2.2
theorem Chain.uniq {i j : Nat} {l m : List (Nat × Nat)} (h : Chain one other i j l) : Chain one other i j m → l = m := by
  induction h generalizing m with
  | nil h =>
    intro k
    cases k with
    | nil _ => rfl
    | cons f _ => have := f.2.1.2.2; omega
  | cons f _ ih =>
    intro k
    cases k with
    | nil h => have := f.2.1.2.2; omega
    | cons g k =>
      have e := f.uniq g
      subst e
      rw [ih k]
/-- there is a next one -/
theorem exists_cond : ∀ (n i j : Nat), one.length - i + (other.length - j) ≤ n → 0 < L one other i j → ∃ p, Like one other p ∧ Cond one other i j p
  | n, i, j, hn, h => by
    by_cases hi : i < one.length
    · by_cases hj : j < other.length
      · have e := L_step hi hj
        by_cases q : one[i] = other[j]
        · rw [if_pos q] at e
          exact ⟨(i, j), ⟨one[i], by simp [hi], by rw [q]; simp [hj]⟩, Nat.le_refl _, Nat.le_refl _, e.symm⟩
        · rw [if_neg q] at e
          by_cases m : L one other (i + 1) j = L one other i j
          · match n, hn with
            | 0, hn => omega
            | n + 1, hn =>
              obtain ⟨p, h1, h2, h3, h4⟩ := exists_cond n (i + 1) j (by omega) (by omega)
              exact ⟨p, h1, by omega, h3, by omega⟩
          · match n, hn with
            | 0, hn => omega
            | n + 1, hn =>
              have m2 : L one other i (j + 1) = L one other i j := by omega
              obtain ⟨p, h1, h2, h3, h4⟩ := exists_cond n i (j + 1) (by omega) (by omega)
              exact ⟨p, h1, h2, by omega, by omega⟩
      · rw [L_out2 (by omega)] at h; omega
    · rw [L_out1 (by omega)] at h; omega
/-! the row out of all like pairs, in order -/
def sel (one other : List Str) : List (Nat × Nat) → Nat → Nat → List (Nat × Nat)
  | [], _, _ => []
  | p :: ps, i, j => if i ≤ p.1 ∧ j ≤ p.2 ∧ L one other (p.1 + 1) (p.2 + 1) + 1 = L one other i j then p :: sel one other ps (p.1 + 1) (p.2 + 1) else sel one other ps i j
theorem sel_chain : ∀ (Q : List (Nat × Nat)) (i j : Nat), Q.Pairwise Lex → (∀ q ∈ Q, Like one other q) → (∀ q, Like one other q → Cond one other i j q → q ∈ Q) → (∀ p ∈ Q, ∀ q, Like one other q → Lex p q → q ∈ Q) → Chain one other i j (sel one other Q i j)
  | [], i, j, _, _, h, _ => by
    refine .nil ?_
    cases e : L one other i j with
    | zero => rfl
    | succ n =>
      obtain ⟨p, h1, h2⟩ := exists_cond (one := one) (other := other) _ i j (Nat.le_refl _) (by omega)
      exact absurd (h p h1 h2) (by simp)
  | p :: Q, i, j, hs, hl, h, hu => by
    rw [List.pairwise_cons] at hs
    have up : ∀ p' ∈ Q, ∀ q, Like one other q → Lex p' q → q ∈ Q := fun p' hp' q hq hx => by
      rcases List.mem_cons.mp (hu p' (List.mem_cons_of_mem _ hp') q hq hx) with e | e
      · subst e; exact (((hs.1 p' hp').trans hx).irr).elim
      · exact e
    unfold sel
    split
    · rename_i hc
      refine .cons ⟨hl p List.mem_cons_self, hc, fun q h1 h2 h3 => ?_⟩ (sel_chain Q _ _ hs.2 (fun q hq => hl q (List.mem_cons_of_mem _ hq)) (fun q h1 h2 => ?_) up)
      · rcases List.mem_cons.mp (h q h1 h2) with e | e
        · subst e; exact h3.irr
        · exact ((hs.1 q e).trans h3).irr
      · have hx : Lex p q := .inl h2.1
        rcases List.mem_cons.mp (hu p List.mem_cons_self q h1 hx) with e | e
        · subst e; exact hx.irr.elim
        · exact e
    · rename_i hc
      refine sel_chain Q i j hs.2 (fun q hq => hl q (List.mem_cons_of_mem _ hq)) (fun q h1 h2 => ?_) up
      rcases List.mem_cons.mp (h q h1 h2) with e | e
      · subst e; exact absurd h2 hc
      · exact e
/-- of the same lines each by itself -/
theorem self_first {xs : List Str} {k : Nat} (h : k < xs.length) : First xs xs k k (k, k) := by
  have e : ∀ i, i ≤ xs.length → L xs xs i i = xs.length - i := fun i hi => by unfold L; rw [lcs_self, List.length_drop]
  refine ⟨⟨xs[k], by simp [h], by simp [h]⟩, ⟨Nat.le_refl _, Nat.le_refl _, ?_⟩, fun q _ h2 h3 => ?_⟩
  · rw [e k (by omega), e (k + 1) (by omega)]; omega
  · have h21 := h2.1
    have h22 := h2.2.1
    unfold Lex at h3
    simp only at h3 h21 h22
    omega
theorem self_chain {xs : List Str} : ∀ (n k : Nat), xs.length - k = n → Chain xs xs k k ((List.range n).map fun i => (k + i, k + i))
  | 0, k, h => .nil (L_out1 (one := xs) (other := xs) (i := k) (j := k) (by omega))
  | n + 1, k, h => by
    rw [List.range_succ_eq_map, List.map_cons, List.map_map]
    refine .cons (p := (k, k)) (self_first (by omega)) ?_
    have := self_chain (xs := xs) n (k + 1) (by omega)
    have e : ((fun i => (k + i, k + i)) ∘ Nat.succ) = fun i => (k + 1 + i, k + 1 + i) := by
      funext i
      simp only [Function.comp]
      rw [show k + Nat.succ i = k + 1 + i by omega]
    rw [e]
    exact this
end

/-! all like pairs -/
def alR (x : Str) : Nat → List Str → List Nat
  | _, [] => []
  | k, y :: ys => if x = y then k :: alR x (k + 1) ys else alR x (k + 1) ys
def al : Nat → List Str → List Str → List (Nat × Nat)
  | _, [], _ => []
  | k, x :: xs, other => (alR x 0 other).map (fun j => (k, j)) ++ al (k + 1) xs other
theorem alR_mem {x : Str} : ∀ {ys : List Str} {k j : Nat}, j ∈ alR x k ys ↔ k ≤ j ∧ ys[j - k]? = some x
  | [], k, j => by simp [alR]
  | y :: ys, k, j => by
    have ih := alR_mem (x := x) (ys := ys) (k := k + 1) (j := j)
    unfold alR
    by_cases h : j = k
    · subst h
      rw [Nat.sub_self]
      split
      · rename_i e; subst e; simp
      · rename_i e
        rw [ih]
        constructor
        · intro q; omega
        · intro q
          have := q.2
          simp at this
          exact absurd this.symm e
    · have e : k + 1 ≤ j ∧ ys[j - (k + 1)]? = some x ↔ k ≤ j ∧ (y :: ys)[j - k]? = some x := by
        by_cases q : k ≤ j
        · have : j - k = (j - (k + 1)) + 1 := by omega
          rw [this, List.getElem?_cons_succ]
          constructor
          · intro z; exact ⟨q, z.2⟩
          · intro z; exact ⟨by omega, z.2⟩
        · constructor
          · intro z; omega
          · intro z; exact absurd z.1 q
      split
      · rw [List.mem_cons, ih, e]
        simp [h]
      · rw [ih, e]
theorem alR_sorted {x : Str} : ∀ {ys : List Str} {k : Nat}, (alR x k ys).Pairwise (· < ·)
  | [], k => by simp [alR]
  | y :: ys, k => by
    unfold alR
    split
    · rw [List.pairwise_cons]
      refine ⟨fun j hj => ?_, alR_sorted⟩
      have := (alR_mem.mp hj).1
      omega
    · exact alR_sorted
theorem al_mem {other : List Str} : ∀ {xs : List Str} {k : Nat} {p : Nat × Nat}, p ∈ al k xs other ↔ k ≤ p.1 ∧ ∃ x, xs[p.1 - k]? = some x ∧ other[p.2]? = some x
  | [], k, p => by simp [al]
  | x :: xs, k, p => by
    have ih := al_mem (other := other) (xs := xs) (k := k + 1) (p := p)
    unfold al
    rw [List.mem_append, List.mem_map, ih]
    constructor
    · rintro (⟨j, hj, rfl⟩ | ⟨h1, y, h2, h3⟩)
      · have := (alR_mem.mp hj).2
        exact ⟨Nat.le_refl _, x, by simp, by simpa using this⟩
      · refine ⟨by omega, y, ?_, h3⟩
        rw [show p.1 - k = (p.1 - (k + 1)) + 1 by omega, List.getElem?_cons_succ]
        exact h2
    · rintro ⟨h1, y, h2, h3⟩
      by_cases e : p.1 = k
      · left
        rw [e, Nat.sub_self] at h2
        simp at h2
        subst h2
        exact ⟨p.2, alR_mem.mpr ⟨Nat.zero_le _, by simpa using h3⟩, by rw [← e]⟩
      · right
        rw [show p.1 - k = (p.1 - (k + 1)) + 1 by omega, List.getElem?_cons_succ] at h2
        exact ⟨by omega, y, h2, h3⟩
theorem al_sorted {other : List Str} : ∀ {xs : List Str} {k : Nat}, (al k xs other).Pairwise Lex
  | [], k => by simp [al]
  | x :: xs, k => by
    unfold al
    rw [List.pairwise_append]
    refine ⟨?_, al_sorted, fun p hp q hq => ?_⟩
    · rw [List.pairwise_map]
      exact alR_sorted.imp fun h => .inr ⟨rfl, h⟩
    · rw [List.mem_map] at hp
      obtain ⟨j, _, rfl⟩ := hp
      have := (al_mem.mp hq).1
      exact .inl (show k < q.1 by omega)
theorem al_like {one other : List Str} {p : Nat × Nat} : p ∈ al 0 one other ↔ Like one other p := by
  rw [al_mem]
  unfold Like
  simp
theorem alR_len {x : Str} : ∀ {ys : List Str} {k : Nat}, (alR x k ys).length ≤ ys.length
  | [], _ => by simp [alR]
  | y :: ys, k => by
    unfold alR
    split
    · rw [List.length_cons, List.length_cons]; have := alR_len (x := x) (ys := ys) (k := k + 1); omega
    · rw [List.length_cons]; have := alR_len (x := x) (ys := ys) (k := k + 1); omega
theorem al_len {other : List Str} : ∀ {xs : List Str} {k : Nat}, (al k xs other).length ≤ xs.length * other.length
  | [], _ => by simp [al]
  | x :: xs, k => by
    unfold al
    rw [List.length_append, List.length_map, List.length_cons, Nat.add_mul, Nat.one_mul]
    have h1 := alR_len (x := x) (ys := other) (k := 0)
    have h2 := al_len (other := other) (xs := xs) (k := k + 1)
    omega
/-- the common row -/
def comm (one other : List Str) : List (Nat × Nat) := sel one other (al 0 one other) 0 0
theorem comm_chain (one other : List Str) : Chain one other 0 0 (comm one other) :=
  sel_chain _ 0 0 al_sorted (fun q h => al_like.mp h) (fun q h _ => al_like.mpr h) fun _ _ q h _ => al_like.mpr h
theorem comm_len (one other : List Str) : (comm one other).length = lcs one other := by
  rw [(comm_chain one other).len]
  unfold L
  simp
end TM.Row
namespace TM.Ln
open PySem PySem.Spec L2 TM
open PyProof.Rows hiding St
def m_is_lines : Sm := sSeq (sIf (tOrB (tNotB (tTru (.ex (bPrim fIsi [.sl 0, .ex (bC (.ty "tuple"))])))) (tBool (bPrim fGt [.ex (bPrim fLen [.sl 0]), .ex (bC (.int 60))]))) (sSeq (sRet (wVal (bC (.bl false)))) (sOk .next)) (sOk .next)) (sSeq (sRet (wVal (bPrim fAll [.ex (eFrz (wComp (iVal (bVar 0)) [1] (.nm 1) bTT (bAnd (bPrim fIsi [.sl 1, .ex (bC (.ty "str"))]) (bAnd (bPrim fLe [.ex (bPrim fLen [.sl 1]), .ex (bC (.int 80))]) (bPrim fNotIn [.ex (bC (.str "\n")), .sl 1])))))]))) (sOk .next))
def F_is_lines : Fsem := fsem 2 m_is_lines
abbrev I_is_lines : FnI := ⟨["thing"], F_is_lines, [], [(1, [], ar1)]⟩
def m_need_lines : Sm := sSeq (sIf (tNotB (tTru (.ex (eFrz (wCall F_is_lines [] ar1 [bVar 0] []))))) (sSeq (sNo) (sOk .next)) (sOk .next)) (sOk .next)
def F_need_lines : Fsem := fsem 1 m_need_lines
abbrev I_need_lines : FnI := ⟨["thing"], F_need_lines, [], [(1, [], ar1)]⟩
def m_longest : Sm := sSeq (sSet 2 (wComp (iRange range1 [.ex (bPrim fAdd [.ex (bPrim fLen [.sl 0]), .ex (bC (.int 1))])]) [5] (.nm 5) bTT (ePub (wPrim fMul [.ex (eFrz (wLst [bC (.int 0)])), .ex (bPrim fAdd [.ex (bPrim fLen [.sl 1]), .ex (bC (.int 1))])])))) (sSeq (sFor (iRange range3 [.ex (bPrim fSub [.ex (bPrim fLen [.sl 0]), .ex (bC (.int 1))]), .ex (bPrim negF [.ex (bC (.int 1))]), .ex (bPrim negF [.ex (bC (.int 1))])]) (.nm 3) (sSeq (sFor (iRange range3 [.ex (bPrim fSub [.ex (bPrim fLen [.sl 1]), .ex (bC (.int 1))]), .ex (bPrim negF [.ex (bC (.int 1))]), .ex (bPrim negF [.ex (bC (.int 1))])]) (.nm 4) (sSeq (sIf (tBool (bPrim fEq [.ex (bPrim fIx [.sl 0, .sl 3]), .ex (bPrim fIx [.sl 1, .sl 4])])) (sSeq (sPutS (bPrim fIx [.sl 2, .sl 3]) (bVar 4) (bPrim fAdd [.ex (bIxL (bPrim fIx [.sl 2, .ex (bPrim fAdd [.sl 3, .ex (bC (.int 1))])]) (bPrim fAdd [.sl 4, .ex (bC (.int 1))])), .ex (bC (.int 1))])) (sOk .next)) (sSeq (sPutS (bPrim fIx [.sl 2, .sl 3]) (bVar 4) (bPrim fMax [.ex (bIxL (bPrim fIx [.sl 2, .ex (bPrim fAdd [.sl 3, .ex (bC (.int 1))])]) (bVar 4)), .ex (bIxL (bPrim fIx [.sl 2, .sl 3]) (bPrim fAdd [.sl 4, .ex (bC (.int 1))]))])) (sOk .next))) (sOk .next))) (sOk .next))) (sSeq (sRet (wMove 2)) (sOk .next)))
def F_longest : Fsem := fsem 6 m_longest
abbrev I_longest : FnI := ⟨["one", "other"], F_longest, [], [(2, [], ar2)]⟩
def m_alike : Sm := sSeq (sRet (wComp2 (iRange fEnumT [.sl 0]) [2, 3, 4, 5] (.tp [.nm 2, .nm 3]) bTT (iRange fEnumT [.sl 1]) [4, 5] (.tp [.nm 4, .nm 5]) (tBool (bPrim fEq [.sl 3, .sl 5])) (bTup [bVar 2, bVar 4]))) (sOk .next)
def F_alike : Fsem := fsem 6 m_alike
abbrev I_alike : FnI := ⟨["one", "other"], F_alike, [], [(2, [], ar2)]⟩
def m_row_of : Sm := sSeq (sPar [2, 3, 4, 5] [wCall F_longest [] ar2 [bVar 0, bVar 1] [], wLst [], wVal (bC (.int 0)), wVal (bC (.int 0))]) (sSeq (sFor (iVal (eFrz (wCall F_alike [] ar2 [bVar 0, bVar 1] []))) (.tp [.nm 6, .nm 7]) (sSeq (sIf (tAndB (tBool (bPrim fGe [.sl 6, .sl 4])) (tAndB (tBool (bPrim fGe [.sl 7, .sl 5])) (tBool (bPrim fEq [.ex (bPrim fAdd [.ex (bIxL (bPrim fIx [.sl 2, .ex (bPrim fAdd [.sl 6, .ex (bC (.int 1))])]) (bPrim fAdd [.sl 7, .ex (bC (.int 1))])), .ex (bC (.int 1))]), .ex (bIxL (bPrim fIx [.sl 2, .sl 4]) (bVar 5))])))) (sSeq (sDrop (mMut 3 mfAppend [bTup [bVar 6, bVar 7]])) (sSeq (sPar [4, 5] [wPrim fAdd [.sl 6, .ex (bC (.int 1))], wPrim fAdd [.sl 7, .ex (bC (.int 1))]]) (sOk .next))) (sOk .next)) (sOk .next))) (sSeq (sRet (wMove 3)) (sOk .next)))
def F_row_of : Fsem := fsem 8 m_row_of
abbrev I_row_of : FnI := ⟨["one", "other"], F_row_of, [], [(2, [], ar2)]⟩
def m_common : Sm := sSeq (sDrop (eFrz (wCall F_need_lines [] ar1 [bVar 0] []))) (sSeq (sDrop (eFrz (wCall F_need_lines [] ar1 [bVar 1] []))) (sSeq (sRet (wCall F_row_of [] ar2 [bVar 0, bVar 1] [])) (sOk .next)))
def F_common : Fsem := fsem 2 m_common
abbrev I_common : FnI := ⟨["one", "other"], F_common, [], [(2, [], ar2)]⟩
def m__law_line : Sm := sSeq (sSet 1 (wVal (bC (.str " !\"#$&'()*+,-./0123456789:;<=>?@ABCDEFGHIJKLMNOPQRSTUVWXYZ[\\]^_`abcdefghijklmnopqrstuvwxyz{|}~")))) (sSeq (sSet 2 (wCall F__law_next [] ar2 [bVar 0, bC (.int 5)] [])) (sSeq (sIf (tBool (bPrim fEq [.sl 2, .ex (bC (.int 0))])) (sSeq (sRet (wVal (bPrim fJoin [.ex (mChk D.isStr (bC (.str ""))), .ex (eFrz (wComp (iRange range1 [.ex (eFrz (wCall F__law_next [] ar2 [bVar 0, bC (.int 12)] []))]) [3] (.nm 3) bTT (bPrim fIx [.sl 1, .ex (eFrz (wCall F__law_next [] ar2 [bVar 0, bC (.int 94)] []))])))]))) (sOk .next)) (sOk .next)) (sSeq (sIf (tBool (bPrim fEq [.sl 2, .ex (bC (.int 1))])) (sSeq (sRet (wPrim fMul [.ex (bPrim fIx [.sl 1, .ex (eFrz (wCall F__law_next [] ar2 [bVar 0, bC (.int 94)] []))]), .ex (bPrim fIx [.ex (eFrz (wLst [bC (.int 80), bC (.int 79), bC (.int 1)])), .ex (eFrz (wCall F__law_next [] ar2 [bVar 0, bC (.int 3)] []))])])) (sOk .next)) (sOk .next)) (sSeq (sRet (wVal (bPrim fIx [.ex (eFrz (wLst [bC (.str ""), bC (.str " "), bC (.str "a"), bC (.str "aa"), bC (.str "b"), bC (.str "mine"), bC (.str "stay"), bC (.str "old"), bC (.str "/"), bC (.str "0")])), .ex (eFrz (wCall F__law_next [] ar2 [bVar 0, bC (.int 10)] []))]))) (sOk .next)))))
def F__law_line : Fsem := fsem 4 m__law_line
abbrev I__law_line : FnI := ⟨["draw"], F__law_line, [], [(1, [], ar1)]⟩
def m__law_lines : Sm := sSeq (sRet (wVal (bPrim fTuple [.ex (eFrz (wComp (iRange range1 [.ex (eFrz (wCall F__law_next [] ar2 [bVar 0, bPrim fAdd [.sl 2, .ex (bC (.int 1))]] []))]) [3] (.nm 3) bTT (bPrim fIx [.sl 1, .ex (eFrz (wCall F__law_next [] ar2 [bVar 0, bPrim fLen [.sl 1]] []))])))]))) (sOk .next)
def F__law_lines : Fsem := fsem 4 m__law_lines
abbrev I__law_lines : FnI := ⟨["draw", "pool", "most"], F__law_lines, [], [(3, [], ar3)]⟩
def m__law_changed : Sm := sSeq (sSet 4 (wPrim fList [.sl 1])) (sSeq (sFor (iRange range1 [.sl 3]) (.nm 5) (sSeq (sPar [6, 7, 8] [wCall F__law_next [] ar2 [bVar 0, bPrim fAdd [.ex (bPrim fLen [.sl 4]), .ex (bC (.int 1))]] [], wCall F__law_next [] ar2 [bVar 0, bC (.int 5)] [], wVal (bPrim fIx [.sl 2, .ex (eFrz (wCall F__law_next [] ar2 [bVar 0, bPrim fLen [.sl 2]] []))])]) (sSeq (sIf (tAndB (tBool (bPrim fLt [.sl 7, .ex (bC (.int 2))])) (tBool (bPrim fLt [.ex (bPrim fLen [.sl 4]), .ex (bC (.int 60))]))) (sSeq (sDrop (mMut 4 mfInsert [bVar 6, bVar 8])) (sOk .next)) (sSeq (sIf (tBool (bPrim fEq [.sl 7, .ex (bC (.int 2))])) (sSeq (sSet 4 (wPrim fAdd [.ex (bPrim fSl01 [.sl 4, mInt (bVar 6)]), .ex (bPrim fSl10 [.sl 4, mInt (bPrim fAdd [.sl 6, .ex (bC (.int 1))])])])) (sOk .next)) (sSeq (sIf (tAndB (tBool (bPrim fEq [.sl 7, .ex (bC (.int 3))])) (tBool (bPrim fLt [.sl 6, .ex (bPrim fLen [.sl 4])]))) (sSeq (sPutL 4 (bVar 6) (bVar 8)) (sOk .next)) (sSeq (sIf (tBool (bPrim fLt [.sl 6, .ex (bPrim fLen [.sl 4])])) (sSeq (sSet 8 (wVal (mMut 4 mfPopAt [bVar 6]))) (sSeq (sDrop (mMut 4 mfInsert [eFrz (wCall F__law_next [] ar2 [bVar 0, bPrim fAdd [.ex (bPrim fLen [.sl 4]), .ex (bC (.int 1))]] []), bVar 8])) (sOk .next))) (sOk .next)) (sOk .next))) (sOk .next))) (sOk .next))) (sOk .next)))) (sSeq (sRet (wVal (bPrim fTuple [.sl 4]))) (sOk .next)))
def F__law_changed : Fsem := fsem 9 m__law_changed
abbrev I__law_changed : FnI := ⟨["draw", "lines", "pool", "many"], F__law_changed, [], [(4, [], ar4)]⟩
def m__law_table : Sm := sSeq (sSet 2 (wLst [bPrim fMul [.ex (eFrz (wLst [bC (.int 0)])), .ex (bPrim fAdd [.ex (bPrim fLen [.sl 1]), .ex (bC (.int 1))])]])) (sSeq (sFor (iVal (bPrim fRev [.sl 0])) (.nm 3) (sSeq (sSet 4 (wLst [bC (.int 0)])) (sSeq (sFor (iRange range3 [.ex (bPrim fSub [.ex (bPrim fLen [.sl 1]), .ex (bC (.int 1))]), .ex (bPrim negF [.ex (bC (.int 1))]), .ex (bPrim negF [.ex (bC (.int 1))])]) (.nm 5) (sSeq (sSet 4 (wPrim fAdd [.ex (eFrz (wLst [bIf (tBool (bPrim fEq [.ex (bPrim fIx [.sl 1, .sl 5]), .sl 3])) (bPrim fAdd [.ex (bC (.int 1)), .ex (bPrim fIx [.ex (bPrim fIx [.sl 2, .ex (bC (.int 0))]), .ex (bPrim fAdd [.sl 5, .ex (bC (.int 1))])])]) (bPrim fMax [.ex (bPrim fIx [.ex (bPrim fIx [.sl 2, .ex (bC (.int 0))]), .sl 5]), .ex (bPrim fIx [.sl 4, .ex (bC (.int 0))])])])), .sl 4])) (sOk .next))) (sSeq (sSet 2 (wPrim fAdd [.ex (eFrz (wLst [bVar 4])), .sl 2])) (sOk .next))))) (sSeq (sRet (wMove 2)) (sOk .next)))
def F__law_table : Fsem := fsem 6 m__law_table
abbrev I__law_table : FnI := ⟨["one", "other"], F__law_table, [], [(2, [], ar2)]⟩
def m__law_row : Sm := sSeq (sPar [2, 3, 4, 5] [wCall F__law_table [] ar2 [bVar 0, bVar 1] [], wLst [], wVal (bC (.int 0)), wVal (bC (.int 0))]) (sSeq (whileL (tBool (bPrim fGt [.ex (bPrim fIx [.ex (bPrim fIx [.sl 2, .sl 4]), .sl 5]), .ex (bC (.int 0))])) (sSeq (sPar [6, 7] [wVal (bC .non), wVal (bVar 4)]) (sSeq (whileL (tBool (bPrim fIsN [.sl 6, .ex (bC .non)])) (sSeq (sSet 8 (wComp (iRange range2 [.sl 5, .ex (bPrim fLen [.sl 1])]) [9] (.nm 9) (tAndB (tBool (bPrim fEq [.ex (bPrim fIx [.sl 1, .sl 9]), .ex (bPrim fIx [.sl 0, .sl 7])])) (tBool (bPrim fEq [.ex (bPrim fAdd [.ex (bC (.int 1)), .ex (bPrim fIx [.ex (bPrim fIx [.sl 2, .ex (bPrim fAdd [.sl 7, .ex (bC (.int 1))])]), .ex (bPrim fAdd [.sl 9, .ex (bC (.int 1))])])]), .ex (bPrim fIx [.ex (bPrim fIx [.sl 2, .sl 4]), .sl 5])]))) (bVar 9))) (sSeq (sSet 6 (wIf (tBool (bPrim fNe [.sl 8, .ex (eFrz (wLst []))])) (wVal (bTup [bVar 7, bPrim fIx [.sl 8, .ex (bC (.int 0))]])) (wVal (bC .non)))) (sSeq (sSet 7 (wPrim fAdd [.sl 7, .ex (bC (.int 1))])) (sOk .next)))) 100000) (sSeq (sDrop (mMut 3 mfAppend [bVar 6])) (sSeq (sPar [4, 5] [wPrim fAdd [.ex (bPrim fIx [.sl 6, .ex (bC (.int 0))]), .ex (bC (.int 1))], wPrim fAdd [.ex (bPrim fIx [.sl 6, .ex (bC (.int 1))]), .ex (bC (.int 1))]]) (sOk .next))))) 100000) (sSeq (sRet (wMove 3)) (sOk .next)))
def F__law_row : Fsem := fsem 10 m__law_row
abbrev I__law_row : FnI := ⟨["one", "other"], F__law_row, [], [(2, [], ar2)]⟩
end TM.Ln
namespace TM.Ln
open PySem PySem.Spec L2 TM TM.Row
open PyProof.Rows hiding St

def LineOk (x : Str) : Prop := x.length ≤ 80 ∧ ∀ c ∈ x.cps.toList, 32 ≤ c ∧ c ≤ 126
def dl (xs : List Str) : List D := xs.map .str
structure Lns (xs : List Str) : Prop where
  len : xs.length ≤ 60
  ok : ∀ x ∈ xs, LineOk x
theorem isi_t (ds : List D) : fIsi [.tup ds, .ty "tuple"] = some (.bl true) := rfl
theorem isi_s (x : Str) : fIsi [.str x, .ty "str"] = some (.bl true) := rfl
theorem no_break {x : Str} (h : LineOk x) : fNotIn [.str "\n", .str x] = some (.bl true) := by
  have e : strIn "\n" x = false := by
    show decide (10 ∈ x.cps.toList) = false
    refine decide_eq_false fun m => ?_
    have := (h.2 10 m).1
    omega
  show some (D.bl (!strIn "\n" x)) = _
  rw [e]; rfl
theorem blsD_true : ∀ {ys : List D}, (∀ (j : Nat) (y : D), ys[j]? = some y → y = .bl true) → fAll [.lst ys] = some (.bl true) := by
  have key : ∀ ys : List D, (∀ (j : Nat) (y : D), ys[j]? = some y → y = .bl true) → ∃ bs, blsD ys = some bs ∧ bs.all id = true := by
    intro ys
    induction ys with
    | nil => exact fun _ => ⟨[], rfl, rfl⟩
    | cons y ys ih =>
      intro h
      have h0 := h 0 y rfl
      subst h0
      obtain ⟨bs, h1, h2⟩ := ih fun j z q => h (j + 1) z (by simpa using q)
      exact ⟨true :: bs, by simp [blsD, h1], by simp [h2]⟩
  intro ys h
  obtain ⟨bs, h1, h2⟩ := key ys h
  show (blsD ys).map _ = _
  rw [h1]
  show some (D.bl (bs.all id)) = _
  rw [h2]
theorem is_lines_ok {xs : List Str} (h : Lns xs) (S : Sto) : F_is_lines [.tup (dl xs)] S = .ok (.val (.bl true)) [] S := by
  have hl : ¬ (60 : Int) < ((dl xs).length : Int) := by
    have := h.len
    unfold dl
    rw [List.length_map]; omega
  obtain ⟨ys, e', S', k1, ⟨k2, k3⟩, k4, k5⟩ := compL_run (vs := [1]) (t := .nm 1) (m := bAnd (bPrim fIsi [.sl 1, .ex (bC (.ty "str"))]) (bAnd (bPrim fLe [.ex (bPrim fLen [.sl 1]), .ex (bC (.int 80))]) (bPrim fNotIn [.ex (bC (.str "\n")), .sl 1])))
    (fun _ e S' => e = [some (.val (.tup (dl xs))), none] ∧ S' = S) (fun _ y => y = .bl true) (dl xs) 0 [] [some (.val (.tup (dl xs))), none] S (by have := h.len; simp [dl]; omega) ⟨rfl, rfl⟩ fun j d e S' hd hI => by
      obtain ⟨rfl, rfl⟩ := hI
      unfold dl at hd
      rw [List.getElem?_map] at hd
      obtain ⟨x, hx, rfl⟩ := Option.map_eq_some_iff.mp hd
      have hx2 := h.ok x (List.mem_of_getElem? hx)
      have h80 : (x.length : Int) ≤ 80 := by have := hx2.1; omega
      have h16 : x.length ≤ 16777216 := by have := hx2.1; omega
      refine ⟨_, .bl true, [some (.val (.tup (dl xs))), some (.val (.str x))], S', rfl, ?_, ⟨?_, rfl⟩, rfl⟩
      · simp only [Int.ofNat_lt, Int.ofNat_le, bind_ok, bind_exc, bind_stuck, sizeLine_eq, fMod_i, fFdiv_i, fMul_i, fMul_i1, fMul_i2, fm0, fm1, fAdd_i, fSub_i, fPow_i, fAdd_l, fAdd_t, fAdd_s, fLt_i, fLe_i, fGt_i, fGe_i, evO, resW, evR, bPrim, bC, bVar, tTru, tBool, tNotB, tAndB, tOrB, bAnd, bOr, bNot, bIf, wIf, evX, bTup, wLst, wPrim, wVal, eFrz, wCall, sOk, sRet, sSet, sIf, sSeq, sDrop, sPar, evW, setAll, Tg.asg, Tg.asgs, mMut, sPutL, bGet, sPutD, wDisp, ePub, bIxL, sPutS, mChk, mInt, D.isStr, D.isInt, D.tru, fLen_l, fLen_t, List.length_map, iVal, itemsD, iRange, plainS, wipeE, backE, wComp, wCompB, List.all_cons, List.all_nil, Slot.isVal, Bool.and_true, Bool.true_and, Bool.and_self, fsem, env0, fill, wMove, Slot.frz, List.getElem?_cons_zero, List.getElem?_cons_succ, List.set_cons_zero, List.set_cons_succ, List.map_cons, List.map_nil, List.cons_append, List.nil_append, List.reduceReplicate, Option.getD_some, List.length_cons, List.length_nil, List.getD_cons_zero, List.getD_cons_succ, Nat.reduceAdd, Nat.reduceSub, Option.map_some, if_true, if_false, ite_true, ite_false, Bool.false_eq_true, reduceIte, Nat.reduceLeDiff, Nat.reduceEqDiff, Int.reduceEq, Int.reduceNe, Int.reduceLT, Int.reduceLE, Int.reduceNeg, Int.reducePow, ne_eq, not_false_eq_true, decide_true, decide_false, true_and, and_true, true_or, or_true, and_self, Bool.not_true, Bool.not_false, reduceCtorEq, isi_s, fLen_s, h16, h80, no_break hx2]
      · simp only [Int.ofNat_lt, Int.ofNat_le, bind_ok, bind_exc, bind_stuck, sizeLine_eq, fMod_i, fFdiv_i, fMul_i, fMul_i1, fMul_i2, fm0, fm1, fAdd_i, fSub_i, fPow_i, fAdd_l, fAdd_t, fAdd_s, fLt_i, fLe_i, fGt_i, fGe_i, evO, resW, evR, bPrim, bC, bVar, tTru, tBool, tNotB, tAndB, tOrB, bAnd, bOr, bNot, bIf, wIf, evX, bTup, wLst, wPrim, wVal, eFrz, wCall, sOk, sRet, sSet, sIf, sSeq, sDrop, sPar, evW, setAll, Tg.asg, Tg.asgs, mMut, sPutL, bGet, sPutD, wDisp, ePub, bIxL, sPutS, mChk, mInt, D.isStr, D.isInt, D.tru, fLen_l, fLen_t, List.length_map, iVal, itemsD, iRange, plainS, wipeE, backE, wComp, wCompB, List.all_cons, List.all_nil, Slot.isVal, Bool.and_true, Bool.true_and, Bool.and_self, fsem, env0, fill, wMove, Slot.frz, List.getElem?_cons_zero, List.getElem?_cons_succ, List.set_cons_zero, List.set_cons_succ, List.map_cons, List.map_nil, List.cons_append, List.nil_append, List.reduceReplicate, Option.getD_some, List.length_cons, List.length_nil, List.getD_cons_zero, List.getD_cons_succ, Nat.reduceAdd, Nat.reduceSub, Option.map_some, if_true, if_false, ite_true, ite_false, Bool.false_eq_true, reduceIte, Nat.reduceLeDiff, Nat.reduceEqDiff, Int.reduceEq, Int.reduceNe, Int.reduceLT, Int.reduceLE, Int.reduceNeg, Int.reducePow, ne_eq, not_false_eq_true, decide_true, decide_false, true_and, and_true, true_or, or_true, and_self, Bool.not_true, Bool.not_false, reduceCtorEq]
  subst k2 k3
  simp only [F_is_lines, m_is_lines, Int.ofNat_lt, Int.ofNat_le, bind_ok, bind_exc, bind_stuck, sizeLine_eq, fMod_i, fFdiv_i, fMul_i, fMul_i1, fMul_i2, fm0, fm1, fAdd_i, fSub_i, fPow_i, fAdd_l, fAdd_t, fAdd_s, fLt_i, fLe_i, fGt_i, fGe_i, evO, resW, evR, bPrim, bC, bVar, tTru, tBool, tNotB, tAndB, tOrB, bAnd, bOr, bNot, bIf, wIf, evX, bTup, wLst, wPrim, wVal, eFrz, wCall, sOk, sRet, sSet, sIf, sSeq, sDrop, sPar, evW, setAll, Tg.asg, Tg.asgs, mMut, sPutL, bGet, sPutD, wDisp, ePub, bIxL, sPutS, mChk, mInt, D.isStr, D.isInt, D.tru, fLen_l, fLen_t, List.length_map, iVal, itemsD, iRange, plainS, wipeE, backE, wComp, wCompB, List.all_cons, List.all_nil, Slot.isVal, Bool.and_true, Bool.true_and, Bool.and_self, fsem, env0, fill, wMove, Slot.frz, List.getElem?_cons_zero, List.getElem?_cons_succ, List.set_cons_zero, List.set_cons_succ, List.map_cons, List.map_nil, List.cons_append, List.nil_append, List.reduceReplicate, Option.getD_some, List.length_cons, List.length_nil, List.getD_cons_zero, List.getD_cons_succ, Nat.reduceAdd, Nat.reduceSub, Option.map_some, if_true, if_false, ite_true, ite_false, Bool.false_eq_true, reduceIte, Nat.reduceLeDiff, Nat.reduceEqDiff, Int.reduceEq, Int.reduceNe, Int.reduceLT, Int.reduceLE, Int.reduceNeg, Int.reducePow, ne_eq, not_false_eq_true, decide_true, decide_false, true_and, and_true, true_or, or_true, and_self, Bool.not_true, Bool.not_false, reduceCtorEq, isi_t, hl]
  rw [k1]
  simp only [Int.ofNat_lt, Int.ofNat_le, bind_ok, bind_exc, bind_stuck, sizeLine_eq, fMod_i, fFdiv_i, fMul_i, fMul_i1, fMul_i2, fm0, fm1, fAdd_i, fSub_i, fPow_i, fAdd_l, fAdd_t, fAdd_s, fLt_i, fLe_i, fGt_i, fGe_i, evO, resW, evR, bPrim, bC, bVar, tTru, tBool, tNotB, tAndB, tOrB, bAnd, bOr, bNot, bIf, wIf, evX, bTup, wLst, wPrim, wVal, eFrz, wCall, sOk, sRet, sSet, sIf, sSeq, sDrop, sPar, evW, setAll, Tg.asg, Tg.asgs, mMut, sPutL, bGet, sPutD, wDisp, ePub, bIxL, sPutS, mChk, mInt, D.isStr, D.isInt, D.tru, fLen_l, fLen_t, List.length_map, iVal, itemsD, iRange, plainS, wipeE, backE, wComp, wCompB, List.all_cons, List.all_nil, Slot.isVal, Bool.and_true, Bool.true_and, Bool.and_self, fsem, env0, fill, wMove, Slot.frz, List.getElem?_cons_zero, List.getElem?_cons_succ, List.set_cons_zero, List.set_cons_succ, List.map_cons, List.map_nil, List.cons_append, List.nil_append, List.reduceReplicate, Option.getD_some, List.length_cons, List.length_nil, List.getD_cons_zero, List.getD_cons_succ, Nat.reduceAdd, Nat.reduceSub, Option.map_some, if_true, if_false, ite_true, ite_false, Bool.false_eq_true, reduceIte, Nat.reduceLeDiff, Nat.reduceEqDiff, Int.reduceEq, Int.reduceNe, Int.reduceLT, Int.reduceLE, Int.reduceNeg, Int.reducePow, ne_eq, not_false_eq_true, decide_true, decide_false, true_and, and_true, true_or, or_true, and_self, Bool.not_true, Bool.not_false, reduceCtorEq, blsD_true fun j y q => k5 j y q]
theorem need_ok {xs : List Str} (h : Lns xs) (S : Sto) : F_need_lines [.tup (dl xs)] S = .ok (.val .non) [] S := by
  simp only [F_need_lines, m_need_lines, Int.ofNat_lt, Int.ofNat_le, bind_ok, bind_exc, bind_stuck, sizeLine_eq, fMod_i, fFdiv_i, fMul_i, fMul_i1, fMul_i2, fm0, fm1, fAdd_i, fSub_i, fPow_i, fAdd_l, fAdd_t, fAdd_s, fLt_i, fLe_i, fGt_i, fGe_i, evO, resW, evR, bPrim, bC, bVar, tTru, tBool, tNotB, tAndB, tOrB, bAnd, bOr, bNot, bIf, wIf, evX, bTup, wLst, wPrim, wVal, eFrz, wCall, sOk, sRet, sSet, sIf, sSeq, sDrop, sPar, evW, setAll, Tg.asg, Tg.asgs, mMut, sPutL, bGet, sPutD, wDisp, ePub, bIxL, sPutS, mChk, mInt, D.isStr, D.isInt, D.tru, fLen_l, fLen_t, List.length_map, iVal, itemsD, iRange, plainS, wipeE, backE, wComp, wCompB, List.all_cons, List.all_nil, Slot.isVal, Bool.and_true, Bool.true_and, Bool.and_self, fsem, env0, fill, wMove, Slot.frz, List.getElem?_cons_zero, List.getElem?_cons_succ, List.set_cons_zero, List.set_cons_succ, List.map_cons, List.map_nil, List.cons_append, List.nil_append, List.reduceReplicate, Option.getD_some, List.length_cons, List.length_nil, List.getD_cons_zero, List.getD_cons_succ, Nat.reduceAdd, Nat.reduceSub, Option.map_some, if_true, if_false, ite_true, ite_false, Bool.false_eq_true, reduceIte, Nat.reduceLeDiff, Nat.reduceEqDiff, Int.reduceEq, Int.reduceNe, Int.reduceLT, Int.reduceLE, Int.reduceNeg, Int.reducePow, ne_eq, not_false_eq_true, decide_true, decide_false, true_and, and_true, true_or, or_true, and_self, Bool.not_true, Bool.not_false, reduceCtorEq, is_lines_ok h]

/-! ### the table of longest -/
def rowL (f : Nat → Nat) (m : Nat) : List D := (List.range (m + 1)).map fun l => .int (f l)
def stT (f : Nat → Nat → Nat) (n m : Nat) : Sto := (List.range (n + 1)).map fun k => .lst (rowL (f k) m)
def refs (b n : Nat) : List D := (List.range (n + 1)).map fun k => .ref (b + k)
def updF (f : Nat → Nat → Nat) (k l v : Nat) : Nat → Nat → Nat := fun a b => if a = k ∧ b = l then v else f a b
theorem rowL_get {f : Nat → Nat} {m l : Nat} (h : l ≤ m) : (rowL f m)[l]? = some (.int (f l)) := by
  unfold rowL
  rw [List.getElem?_map, List.getElem?_range (by omega)]
  rfl
theorem rowL_length (f : Nat → Nat) (m : Nat) : (rowL f m).length = m + 1 := by simp [rowL]
theorem refs_get {b n k : Nat} (h : k ≤ n) : (refs b n)[k]? = some (.ref (b + k)) := by
  unfold refs
  rw [List.getElem?_map, List.getElem?_range (by omega)]
  rfl
theorem stT_get {S0 : Sto} {f : Nat → Nat → Nat} {n m k : Nat} (h : k ≤ n) : (S0 ++ stT f n m)[S0.length + k]? = some (.lst (rowL (f k) m)) := by
  rw [List.getElem?_append_right (by omega), Nat.add_sub_cancel_left]
  unfold stT
  rw [List.getElem?_map, List.getElem?_range (by omega)]
  rfl
theorem lget_tab {S0 : Sto} {f : Nat → Nat → Nat} {n m k l : Nat} (hk : k ≤ n) (hl : l ≤ m) : lGetS (S0 ++ stT f n m) (.ref (S0.length + k)) (.int (l : Int)) = some (.int (f k l)) := by
  unfold lGetS lstAt
  simp only [stT_get hk, atI_n, rowL_get hl]
theorem ixN_n {n i : Nat} (h : i < n) : ixN n (i : Int) = some i := by
  unfold ixN
  rw [if_pos (by omega), if_pos (by omega)]
  simp
theorem lput_tab {S0 : Sto} {f : Nat → Nat → Nat} {n m k l v : Nat} (hk : k ≤ n) (hl : l ≤ m) : lPutS (S0 ++ stT f n m) (.ref (S0.length + k)) (.int (l : Int)) (.int (v : Int)) = some (S0 ++ stT (updF f k l v) n m) := by
  unfold lPutS
  simp only [stT_get hk, rowL_length, ixN_n (show l < m + 1 by omega), Option.some.injEq]
  rw [List.set_append_right _ _ (by omega), Nat.add_sub_cancel_left]
  congr 1
  apply List.ext_getElem?
  intro a
  unfold stT
  by_cases ha : a < n + 1
  · by_cases e : k = a
    · subst e
      rw [List.getElem?_set_self (by simp; omega), List.getElem?_map, List.getElem?_range ha]
      show some (Ob.lst _) = some (Ob.lst _)
      congr 2
      apply List.ext_getElem?
      intro c
      unfold rowL
      by_cases hc : c < m + 1
      · by_cases e : l = c
        · subst e
          rw [List.getElem?_set_self (by simp; omega), List.getElem?_map, List.getElem?_range hc]
          simp [updF]
        · rw [List.getElem?_set_ne e, List.getElem?_map, List.getElem?_map, List.getElem?_range hc]
          have e2 : ¬ c = l := fun z => e z.symm
          simp [updF, e2]
      · rw [List.getElem?_eq_none (by simp; omega), List.getElem?_eq_none (by simp; omega)]
    · rw [List.getElem?_set_ne e, List.getElem?_map, List.getElem?_map, List.getElem?_range ha]
      have : (updF f k l v) a = f a := by
        funext c
        unfold updF
        rw [if_neg (fun z => e z.1.symm)]
      simp [this]
  · rw [List.getElem?_eq_none (by simp; omega), List.getElem?_eq_none (by simp; omega)]
theorem cast1 (a : Nat) : ((a : Nat) : Int) + 1 = ((a + 1 : Nat) : Int) := rfl
theorem eq_s (a b : Str) : fEq [.str a, .str b] = some (.bl (decide (a = b))) := rfl
theorem fMul_l (ds : List D) (n : Int) (h : smI n = true ∧ ds.length * n.toNat ≤ sizeLine) : fMul [.lst ds, .int n] = some (.lst (List.replicate n.toNat ds).flatten) := if_pos h
theorem zeros (m : Nat) (h : m ≤ 1000) : fMul [.lst [.int 0], .int ((m + 1 : Nat) : Int)] = some (.lst (rowL (fun _ => 0) m)) := by
  rw [fMul_l _ _ ⟨smI_iff ⟨by omega, by omega⟩, by rw [sizeLine_eq, Int.toNat_natCast]; simp; omega⟩]
  · rw [Int.toNat_natCast]
    congr 2
    unfold rowL
    clear h
    have : ∀ k : Nat, (List.replicate k [D.int 0]).flatten = (List.range k).map fun _ => D.int ((0 : Nat) : Int) := fun k => by
      induction k with
      | zero => rfl
      | succ k ih =>
        rw [List.replicate_succ, List.flatten_cons, ih, List.range_succ_eq_map, List.map_cons, List.map_map]
        rfl
    exact this _
section
variable (one other : List Str)
def fIn (r j : Nat) : Nat → Nat → Nat := fun k l => if r < k ∨ (k = r ∧ other.length - j ≤ l) then L one other k l else 0
def envL (b n : Nat) (x3 x4 : Option Slot) : Env := [some (.val (.tup (dl one))), some (.val (.tup (dl other))), some (.own (refs b n)), x3, x4, none]
end
theorem dl_get {xs : List Str} {i : Nat} (h : i < xs.length) : (dl xs)[i]? = some (.str xs[i]) := by
  unfold dl
  rw [List.getElem?_map, List.getElem?_eq_getElem h]
  rfl
theorem dl_length (xs : List Str) : (dl xs).length = xs.length := by simp [dl]
theorem fMax_n (a b : Nat) : fMax [.int (a : Int), .int (b : Int)] = some (.int ((max a b : Nat) : Int)) := by
  show some (D.int (if (b : Int) > a then (b : Int) else a)) = _
  congr 2
  split <;> omega
abbrev inT : Tg := .nm 4
def inB : Sm := sSeq (sIf (tBool (bPrim fEq [.ex (bPrim fIx [.sl 0, .sl 3]), .ex (bPrim fIx [.sl 1, .sl 4])])) (sSeq (sPutS (bPrim fIx [.sl 2, .sl 3]) (bVar 4) (bPrim fAdd [.ex (bIxL (bPrim fIx [.sl 2, .ex (bPrim fAdd [.sl 3, .ex (bC (.int 1))])]) (bPrim fAdd [.sl 4, .ex (bC (.int 1))])), .ex (bC (.int 1))])) (sOk .next)) (sSeq (sPutS (bPrim fIx [.sl 2, .sl 3]) (bVar 4) (bPrim fMax [.ex (bIxL (bPrim fIx [.sl 2, .ex (bPrim fAdd [.sl 3, .ex (bC (.int 1))])]) (bVar 4)), .ex (bIxL (bPrim fIx [.sl 2, .sl 3]) (bPrim fAdd [.sl 4, .ex (bC (.int 1))]))])) (sOk .next))) (sOk .next)
/-- one cell -/
theorem cell_ok {one other : List Str} {S0 : Sto} {r j : Nat} {x4 : Option Slot} (ds : List D) (hr : r < one.length) (hj : j < other.length) :
    forL inT inB (.int ((other.length - 1 - j : Nat) : Int) :: ds) (envL one other S0.length one.length (some (.val (.int (r : Int)))) x4) (S0 ++ stT (fIn one other r j) one.length other.length) =
      forL inT inB ds (envL one other S0.length one.length (some (.val (.int (r : Int)))) (some (.val (.int ((other.length - 1 - j : Nat) : Int))))) (S0 ++ stT (fIn one other r (j + 1)) one.length other.length) := by
  generalize hc : other.length - 1 - j = c
  have hc1 : c < other.length := by omega
  have ls := L_step (one := one) (other := other) hr hc1
  have key : ∀ v, v = L one other r c → updF (fIn one other r j) r c v = fIn one other r (j + 1) := by
    intro v hv
    funext a b
    unfold updF fIn
    by_cases e : a = r ∧ b = c
    · rw [if_pos e, if_pos (by omega), e.1, e.2, hv]
    · rw [if_neg e]
      by_cases q : r < a ∨ (a = r ∧ other.length - j ≤ b)
      · rw [if_pos q, if_pos (by omega)]
      · rw [if_neg q, if_neg (by omega)]
  have f1 : fIn one other r j (r + 1) (c + 1) = L one other (r + 1) (c + 1) := by unfold fIn; rw [if_pos (by omega)]
  have f2 : fIn one other r j (r + 1) c = L one other (r + 1) c := by unfold fIn; rw [if_pos (by omega)]
  have f3 : fIn one other r j r (c + 1) = L one other r (c + 1) := by unfold fIn; rw [if_pos (by omega)]
  have g1 : fIx [.lst (refs S0.length one.length), .int (r : Int)] = some (.ref (S0.length + r)) := by rw [fIx_l, refs_get (by omega)]
  have g2 : fIx [.lst (refs S0.length one.length), .int ((r + 1 : Nat) : Int)] = some (.ref (S0.length + (r + 1))) := by rw [fIx_l, refs_get (by omega)]
  by_cases q : one[r] = other[c]
  · rw [if_pos q] at ls
    simp only [forL, inB, envL, Int.ofNat_lt, Int.ofNat_le, bind_ok, bind_exc, bind_stuck, sizeLine_eq, fMod_i, fFdiv_i, fMul_i, fMul_i1, fMul_i2, fm0, fm1, fAdd_i, fSub_i, fPow_i, fAdd_l, fAdd_t, fAdd_s, fLt_i, fLe_i, fGt_i, fGe_i, evO, resW, evR, bPrim, bC, bVar, tTru, tBool, tNotB, tAndB, tOrB, bAnd, bOr, bNot, bIf, wIf, evX, bTup, wLst, wPrim, wVal, eFrz, wCall, sOk, sRet, sSet, sIf, sSeq, sDrop, sPar, evW, setAll, Tg.asg, Tg.asgs, mMut, sPutL, bGet, sPutD, wDisp, ePub, bIxL, sPutS, mChk, mInt, D.isStr, D.isInt, D.tru, fLen_l, fLen_t, List.length_map, iVal, itemsD, iRange, plainS, wipeE, backE, wComp, wCompB, List.all_cons, List.all_nil, Slot.isVal, Bool.and_true, Bool.true_and, Bool.and_self, fsem, env0, fill, wMove, Slot.frz, List.getElem?_cons_zero, List.getElem?_cons_succ, List.set_cons_zero, List.set_cons_succ, List.map_cons, List.map_nil, List.cons_append, List.nil_append, List.reduceReplicate, Option.getD_some, List.length_cons, List.length_nil, List.getD_cons_zero, List.getD_cons_succ, Nat.reduceAdd, Nat.reduceSub, Option.map_some, if_true, if_false, ite_true, ite_false, Bool.false_eq_true, reduceIte, Nat.reduceLeDiff, Nat.reduceEqDiff, Int.reduceEq, Int.reduceNe, Int.reduceLT, Int.reduceLE, Int.reduceNeg, Int.reducePow, ne_eq, not_false_eq_true, decide_true, decide_false, true_and, and_true, true_or, or_true, and_self, Bool.not_true, Bool.not_false, reduceCtorEq, fIx_t, dl_get hr, dl_get hc1, eq_s, q, g1, g2, cast1, lget_tab (show r + 1 ≤ one.length by omega) (show c + 1 ≤ other.length by omega), lput_tab (show r ≤ one.length by omega) (show c ≤ other.length by omega), f1, key _ ls.symm]
  · rw [if_neg q] at ls
    simp only [forL, inB, envL, Int.ofNat_lt, Int.ofNat_le, bind_ok, bind_exc, bind_stuck, sizeLine_eq, fMod_i, fFdiv_i, fMul_i, fMul_i1, fMul_i2, fm0, fm1, fAdd_i, fSub_i, fPow_i, fAdd_l, fAdd_t, fAdd_s, fLt_i, fLe_i, fGt_i, fGe_i, evO, resW, evR, bPrim, bC, bVar, tTru, tBool, tNotB, tAndB, tOrB, bAnd, bOr, bNot, bIf, wIf, evX, bTup, wLst, wPrim, wVal, eFrz, wCall, sOk, sRet, sSet, sIf, sSeq, sDrop, sPar, evW, setAll, Tg.asg, Tg.asgs, mMut, sPutL, bGet, sPutD, wDisp, ePub, bIxL, sPutS, mChk, mInt, D.isStr, D.isInt, D.tru, fLen_l, fLen_t, List.length_map, iVal, itemsD, iRange, plainS, wipeE, backE, wComp, wCompB, List.all_cons, List.all_nil, Slot.isVal, Bool.and_true, Bool.true_and, Bool.and_self, fsem, env0, fill, wMove, Slot.frz, List.getElem?_cons_zero, List.getElem?_cons_succ, List.set_cons_zero, List.set_cons_succ, List.map_cons, List.map_nil, List.cons_append, List.nil_append, List.reduceReplicate, Option.getD_some, List.length_cons, List.length_nil, List.getD_cons_zero, List.getD_cons_succ, Nat.reduceAdd, Nat.reduceSub, Option.map_some, if_true, if_false, ite_true, ite_false, Bool.false_eq_true, reduceIte, Nat.reduceLeDiff, Nat.reduceEqDiff, Int.reduceEq, Int.reduceNe, Int.reduceLT, Int.reduceLE, Int.reduceNeg, Int.reducePow, ne_eq, not_false_eq_true, decide_true, decide_false, true_and, and_true, true_or, or_true, and_self, Bool.not_true, Bool.not_false, reduceCtorEq, fIx_t, dl_get hr, dl_get hc1, eq_s, q, g1, g2, cast1, lget_tab (show r + 1 ≤ one.length by omega) (show c ≤ other.length by omega), lget_tab (show r ≤ one.length by omega) (show c + 1 ≤ other.length by omega), lput_tab (show r ≤ one.length by omega) (show c ≤ other.length by omega), f2, f3, fMax_n, key _ ls.symm]
theorem row_done {one other : List Str} {S0 : Sto} {r : Nat} {x4 : Option Slot} (hr : r < one.length) : ∃ x4', forL inT inB (rangeD ((other.length : Int) - 1) other.length (-1)) (envL one other S0.length one.length (some (.val (.int (r : Int)))) x4) (S0 ++ stT (fIn one other r 0) one.length other.length) =
    .ok .next (envL one other S0.length one.length (some (.val (.int (r : Int)))) x4') (S0 ++ stT (fIn one other r other.length) one.length other.length) := by
  rw [rangeD_down]
  obtain ⟨e', S', h1, x, rfl, rfl⟩ := forL_rng (t := inT) (m := inB) (fun j e S => ∃ x, e = envL one other S0.length one.length (some (.val (.int (r : Int)))) x ∧ S = S0 ++ stT (fIn one other r j) one.length other.length) (g := fun i => .int ((other.length - 1 - i : Nat) : Int)) other.length 0 _ _ ⟨x4, rfl, rfl⟩ fun j _ hj e S hI => by
    obtain ⟨x, rfl, rfl⟩ := hI
    exact ⟨_, _, fun ds => cell_ok ds hr (by omega), _, rfl, rfl⟩
  rw [Nat.zero_add] at h1
  exact ⟨x, h1⟩
def outB : Sm := sSeq (sFor (iRange range3 [.ex (bPrim fSub [.ex (bPrim fLen [.sl 1]), .ex (bC (.int 1))]), .ex (bPrim negF [.ex (bC (.int 1))]), .ex (bPrim negF [.ex (bC (.int 1))])]) (.nm 4) inB) (sOk .next)
theorem negF_1 : negF [.int 1] = some (.int (-1)) := rfl
def outF (one other : List Str) (i : Nat) : Nat → Nat → Nat := fun k l => if one.length - i ≤ k then L one other k l else 0
theorem out_in {one other : List Str} {i : Nat} (hi : i < one.length) : outF one other i = fIn one other (one.length - 1 - i) 0 := by
  funext k l
  unfold outF fIn
  by_cases q : one.length - i ≤ k
  · rw [if_pos q, if_pos (by omega)]
  · rw [if_neg q]
    by_cases q2 : one.length - 1 - i < k ∨ k = one.length - 1 - i ∧ other.length - 0 ≤ l
    · rw [if_pos q2, L_out2 (by omega)]
    · rw [if_neg q2]
theorem in_out {one other : List Str} {i : Nat} (hi : i < one.length) : fIn one other (one.length - 1 - i) other.length = outF one other (i + 1) := by
  funext k l
  unfold outF fIn
  by_cases q : one.length - (i + 1) ≤ k
  · rw [if_pos q, if_pos (by omega)]
  · rw [if_neg q, if_neg (by omega)]
theorem out_0 (one other : List Str) : outF one other 0 = fun _ _ => 0 := by
  funext k l
  unfold outF
  split
  · rw [L_out1 (by omega)]
  · rfl
theorem out_n (one other : List Str) : outF one other one.length = L one other := by
  funext k l
  unfold outF
  rw [if_pos (by omega)]
theorem outer_ok {one other : List Str} {S0 : Sto} {i : Nat} {x3 x4 : Option Slot} (ho : other.length ≤ 60) (hi : i < one.length) : ∃ x3' x4', ∀ ds, forL (.nm 3) outB (.int ((one.length - 1 - i : Nat) : Int) :: ds) (envL one other S0.length one.length x3 x4) (S0 ++ stT (outF one other i) one.length other.length) =
    forL (.nm 3) outB ds (envL one other S0.length one.length x3' x4') (S0 ++ stT (outF one other (i + 1)) one.length other.length) := by
  obtain ⟨x4', h⟩ := row_done (one := one) (other := other) (S0 := S0) (r := one.length - 1 - i) (x4 := x4) (by omega)
  rw [← out_in hi, in_out hi] at h
  refine ⟨some (.val (.int ((one.length - 1 - i : Nat) : Int))), x4', fun ds => ?_⟩
  have r3 := range3_ok other.length (by omega)
  rw [forL]
  simp only [outB, sFor, envL, Int.ofNat_lt, Int.ofNat_le, bind_ok, bind_exc, bind_stuck, sizeLine_eq, fMod_i, fFdiv_i, fMul_i, fMul_i1, fMul_i2, fm0, fm1, fAdd_i, fSub_i, fPow_i, fAdd_l, fAdd_t, fAdd_s, fLt_i, fLe_i, fGt_i, fGe_i, evO, resW, evR, bPrim, bC, bVar, tTru, tBool, tNotB, tAndB, tOrB, bAnd, bOr, bNot, bIf, wIf, evX, bTup, wLst, wPrim, wVal, eFrz, wCall, sOk, sRet, sSet, sIf, sSeq, sDrop, sPar, evW, setAll, Tg.asg, Tg.asgs, mMut, sPutL, bGet, sPutD, wDisp, ePub, bIxL, sPutS, mChk, mInt, D.isStr, D.isInt, D.tru, fLen_l, fLen_t, List.length_map, iVal, itemsD, iRange, plainS, wipeE, backE, wComp, wCompB, List.all_cons, List.all_nil, Slot.isVal, Bool.and_true, Bool.true_and, Bool.and_self, fsem, env0, fill, wMove, Slot.frz, List.getElem?_cons_zero, List.getElem?_cons_succ, List.set_cons_zero, List.set_cons_succ, List.map_cons, List.map_nil, List.cons_append, List.nil_append, List.reduceReplicate, Option.getD_some, List.length_cons, List.length_nil, List.getD_cons_zero, List.getD_cons_succ, Nat.reduceAdd, Nat.reduceSub, Option.map_some, if_true, if_false, ite_true, ite_false, Bool.false_eq_true, reduceIte, Nat.reduceLeDiff, Nat.reduceEqDiff, Int.reduceEq, Int.reduceNe, Int.reduceLT, Int.reduceLE, Int.reduceNeg, Int.reducePow, ne_eq, not_false_eq_true, decide_true, decide_false, true_and, and_true, true_or, or_true, and_self, Bool.not_true, Bool.not_false, reduceCtorEq, dl_length, fSub_i, negF_1, r3]
  unfold envL at h
  rw [h]
  simp only [Int.ofNat_lt, Int.ofNat_le, bind_ok, bind_exc, bind_stuck, sizeLine_eq, fMod_i, fFdiv_i, fMul_i, fMul_i1, fMul_i2, fm0, fm1, fAdd_i, fSub_i, fPow_i, fAdd_l, fAdd_t, fAdd_s, fLt_i, fLe_i, fGt_i, fGe_i, evO, resW, evR, bPrim, bC, bVar, tTru, tBool, tNotB, tAndB, tOrB, bAnd, bOr, bNot, bIf, wIf, evX, bTup, wLst, wPrim, wVal, eFrz, wCall, sOk, sRet, sSet, sIf, sSeq, sDrop, sPar, evW, setAll, Tg.asg, Tg.asgs, mMut, sPutL, bGet, sPutD, wDisp, ePub, bIxL, sPutS, mChk, mInt, D.isStr, D.isInt, D.tru, fLen_l, fLen_t, List.length_map, iVal, itemsD, iRange, plainS, wipeE, backE, wComp, wCompB, List.all_cons, List.all_nil, Slot.isVal, Bool.and_true, Bool.true_and, Bool.and_self, fsem, env0, fill, wMove, Slot.frz, List.getElem?_cons_zero, List.getElem?_cons_succ, List.set_cons_zero, List.set_cons_succ, List.map_cons, List.map_nil, List.cons_append, List.nil_append, List.reduceReplicate, Option.getD_some, List.length_cons, List.length_nil, List.getD_cons_zero, List.getD_cons_succ, Nat.reduceAdd, Nat.reduceSub, Option.map_some, if_true, if_false, ite_true, ite_false, Bool.false_eq_true, reduceIte, Nat.reduceLeDiff, Nat.reduceEqDiff, Int.reduceEq, Int.reduceNe, Int.reduceLT, Int.reduceLE, Int.reduceNeg, Int.reducePow, ne_eq, not_false_eq_true, decide_true, decide_false, true_and, and_true, true_or, or_true, and_self, Bool.not_true, Bool.not_false, reduceCtorEq]
theorem stT_zero (n m : Nat) : stT (fun _ _ => 0) n m = List.replicate (n + 1) (.lst (rowL (fun _ => 0) m)) := by
  unfold stT
  rw [List.map_const', List.length_range]
def zeroM : Ex := ePub (wPrim fMul [.ex (eFrz (wLst [bC (.int 0)])), .ex (bPrim fAdd [.ex (bPrim fLen [.sl 1]), .ex (bC (.int 1))])])
theorem zeroM_ok {one other : List Str} (ho : other.length ≤ 60) (S : Sto) (d : D) : zeroM [some (.val (.tup (dl one))), some (.val (.tup (dl other))), none, none, none, some (.val d)] S = .ok (.ref S.length) [some (.val (.tup (dl one))), some (.val (.tup (dl other))), none, none, none, some (.val d)] (S ++ [.lst (rowL (fun _ => 0) other.length)]) := by
  simp only [zeroM, Int.ofNat_lt, Int.ofNat_le, bind_ok, bind_exc, bind_stuck, sizeLine_eq, fMod_i, fFdiv_i, fMul_i, fMul_i1, fMul_i2, fm0, fm1, fAdd_i, fSub_i, fPow_i, fAdd_l, fAdd_t, fAdd_s, fLt_i, fLe_i, fGt_i, fGe_i, evO, resW, evR, bPrim, bC, bVar, tTru, tBool, tNotB, tAndB, tOrB, bAnd, bOr, bNot, bIf, wIf, evX, bTup, wLst, wPrim, wVal, eFrz, wCall, sOk, sRet, sSet, sIf, sSeq, sDrop, sPar, evW, setAll, Tg.asg, Tg.asgs, mMut, sPutL, bGet, sPutD, wDisp, ePub, bIxL, sPutS, mChk, mInt, D.isStr, D.isInt, D.tru, fLen_l, fLen_t, List.length_map, iVal, itemsD, iRange, plainS, wipeE, backE, wComp, wCompB, List.all_cons, List.all_nil, Slot.isVal, Bool.and_true, Bool.true_and, Bool.and_self, fsem, env0, fill, wMove, Slot.frz, List.getElem?_cons_zero, List.getElem?_cons_succ, List.set_cons_zero, List.set_cons_succ, List.map_cons, List.map_nil, List.cons_append, List.nil_append, List.reduceReplicate, Option.getD_some, List.length_cons, List.length_nil, List.getD_cons_zero, List.getD_cons_succ, Nat.reduceAdd, Nat.reduceSub, Option.map_some, if_true, if_false, ite_true, ite_false, Bool.false_eq_true, reduceIte, Nat.reduceLeDiff, Nat.reduceEqDiff, Int.reduceEq, Int.reduceNe, Int.reduceLT, Int.reduceLE, Int.reduceNeg, Int.reducePow, ne_eq, not_false_eq_true, decide_true, decide_false, true_and, and_true, true_or, or_true, and_self, Bool.not_true, Bool.not_false, reduceCtorEq, dl_length, cast1, zeros other.length (show other.length ≤ 1000 by omega)]
theorem zeros_ok {one other : List Str} (h1 : one.length ≤ 60) (ho : other.length ≤ 60) (S0 : Sto) :
    compL [5] (.nm 5) bTT (turn1 zeroM) (rangeD 0 (one.length + 1) 1) [] [some (.val (.tup (dl one))), some (.val (.tup (dl other))), none, none, none, none] S0 =
      .ok (refs S0.length one.length) [some (.val (.tup (dl one))), some (.val (.tup (dl other))), none, none, none, none] (S0 ++ List.replicate (one.length + 1) (.lst (rowL (fun _ => 0) other.length))) := by
  obtain ⟨ys, e', S', k1, ⟨k2, k3⟩, k4, k5⟩ := compL_run (vs := [5]) (t := .nm 5) (m := zeroM)
    (fun i e S' => e = [some (.val (.tup (dl one))), some (.val (.tup (dl other))), none, none, none, none] ∧ S' = S0 ++ List.replicate i (.lst (rowL (fun _ => 0) other.length))) (fun j y => y = .ref (S0.length + j)) (rangeD 0 (one.length + 1) 1) 0 []
    [some (.val (.tup (dl one))), some (.val (.tup (dl other))), none, none, none, none] S0 (by rw [rangeD_length, List.length_nil]; omega) ⟨rfl, by rw [List.replicate_zero, List.append_nil]⟩ fun j d e S' hd hI => by
      obtain ⟨rfl, rfl⟩ := hI
      refine ⟨_, .ref (S0.length + (0 + j)), [some (.val (.tup (dl one))), some (.val (.tup (dl other))), none, none, none, some (.val d)], S0 ++ List.replicate (0 + j + 1) (.lst (rowL (fun _ => 0) other.length)), rfl, ?_, ⟨rfl, rfl⟩, rfl⟩
      have := zeroM_ok (one := one) ho (S0 ++ List.replicate (0 + j) (.lst (rowL (fun _ => 0) other.length))) d
      rw [List.length_append, List.length_replicate, List.append_assoc, ← List.replicate_succ'] at this
      exact this
  have hys : ys = refs S0.length one.length := by
    rw [rangeD_length] at k4
    apply List.ext_getElem?
    intro a
    by_cases ha : a < one.length + 1
    · rw [refs_get (by omega)]
      have : ys[a]? = some ys[a] := by simp [k4, ha]
      rw [this, k5 a _ this, Nat.zero_add]
    · rw [List.getElem?_eq_none (by omega), List.getElem?_eq_none (by simp [refs]; omega)]
  subst hys k2 k3
  rw [rangeD_length, Nat.zero_add] at k1
  exact k1
theorem rows_ok {one other : List Str} (h1 : one.length ≤ 60) (ho : other.length ≤ 60) (S0 : Sto) :
    ∃ x3 x4, forL (.nm 3) outB (rangeD ((one.length : Int) - 1) one.length (-1)) (envL one other S0.length one.length none none) (S0 ++ List.replicate (one.length + 1) (.lst (rowL (fun _ => 0) other.length))) = .ok .next (envL one other S0.length one.length x3 x4) (S0 ++ stT (L one other) one.length other.length) := by
  obtain ⟨e2, S2, m1, x3, x4, rfl, rfl⟩ := forL_rng (t := .nm 3) (m := outB) (fun i e S => ∃ x3 x4, e = envL one other S0.length one.length x3 x4 ∧ S = S0 ++ stT (outF one other i) one.length other.length) (g := fun i => .int ((one.length - 1 - i : Nat) : Int)) one.length 0 (envL one other S0.length one.length none none) (S0 ++ stT (outF one other 0) one.length other.length) ⟨_, _, rfl, rfl⟩ fun j _ hj e S hI => by
    obtain ⟨x3, x4, rfl, rfl⟩ := hI
    obtain ⟨x3', x4', q⟩ := outer_ok (one := one) (other := other) (S0 := S0) (x3 := x3) (x4 := x4) ho (show j < one.length by omega)
    exact ⟨_, _, q, x3', x4', rfl, rfl⟩
  rw [Nat.zero_add, out_n, out_0, stT_zero, ← rangeD_down] at m1
  exact ⟨x3, x4, m1⟩
theorem longest_ok {one other : List Str} (h1 : one.length ≤ 60) (ho : other.length ≤ 60) (S0 : Sto) : F_longest [.tup (dl one), .tup (dl other)] S0 = .ok (.own (refs S0.length one.length)) [] (S0 ++ stT (L one other) one.length other.length) := by
  have r1 := range1_ok (one.length + 1) (by omega)
  have r3 := range3_ok one.length (by omega)
  have k1 := zeros_ok h1 ho S0
  obtain ⟨x3, x4, m1⟩ := rows_ok h1 ho S0
  unfold zeroM at k1
  unfold outB inB envL at m1
  simp only [F_longest, m_longest, Int.ofNat_lt, Int.ofNat_le, bind_ok, bind_exc, bind_stuck, sizeLine_eq, fMod_i, fFdiv_i, fMul_i, fMul_i1, fMul_i2, fm0, fm1, fAdd_i, fSub_i, fPow_i, fAdd_l, fAdd_t, fAdd_s, fLt_i, fLe_i, fGt_i, fGe_i, evO, resW, evR, bPrim, bC, bVar, tTru, tBool, tNotB, tAndB, tOrB, bAnd, bOr, bNot, bIf, wIf, evX, bTup, wLst, wPrim, wVal, eFrz, wCall, sOk, sRet, sSet, sIf, sSeq, sDrop, sPar, evW, setAll, Tg.asg, Tg.asgs, mMut, sPutL, bGet, sPutD, wDisp, ePub, bIxL, sPutS, mChk, mInt, D.isStr, D.isInt, D.tru, fLen_l, fLen_t, List.length_map, iVal, itemsD, iRange, plainS, wipeE, backE, wComp, wCompB, List.all_cons, List.all_nil, Slot.isVal, Bool.and_true, Bool.true_and, Bool.and_self, fsem, env0, fill, wMove, Slot.frz, List.getElem?_cons_zero, List.getElem?_cons_succ, List.set_cons_zero, List.set_cons_succ, List.map_cons, List.map_nil, List.cons_append, List.nil_append, List.reduceReplicate, Option.getD_some, List.length_cons, List.length_nil, List.getD_cons_zero, List.getD_cons_succ, Nat.reduceAdd, Nat.reduceSub, Option.map_some, if_true, if_false, ite_true, ite_false, Bool.false_eq_true, reduceIte, Nat.reduceLeDiff, Nat.reduceEqDiff, Int.reduceEq, Int.reduceNe, Int.reduceLT, Int.reduceLE, Int.reduceNeg, Int.reducePow, ne_eq, not_false_eq_true, decide_true, decide_false, true_and, and_true, true_or, or_true, and_self, Bool.not_true, Bool.not_false, reduceCtorEq, dl_length, cast1, r1]
  rw [k1]
  simp only [Int.ofNat_lt, Int.ofNat_le, bind_ok, bind_exc, bind_stuck, sizeLine_eq, fMod_i, fFdiv_i, fMul_i, fMul_i1, fMul_i2, fm0, fm1, fAdd_i, fSub_i, fPow_i, fAdd_l, fAdd_t, fAdd_s, fLt_i, fLe_i, fGt_i, fGe_i, evO, resW, evR, bPrim, bC, bVar, tTru, tBool, tNotB, tAndB, tOrB, bAnd, bOr, bNot, bIf, wIf, evX, bTup, wLst, wPrim, wVal, eFrz, wCall, sOk, sRet, sSet, sIf, sSeq, sDrop, sPar, evW, setAll, Tg.asg, Tg.asgs, mMut, sPutL, bGet, sPutD, wDisp, ePub, bIxL, sPutS, mChk, mInt, D.isStr, D.isInt, D.tru, fLen_l, fLen_t, List.length_map, iVal, itemsD, iRange, plainS, wipeE, backE, wComp, wCompB, List.all_cons, List.all_nil, Slot.isVal, Bool.and_true, Bool.true_and, Bool.and_self, fsem, env0, fill, wMove, Slot.frz, List.getElem?_cons_zero, List.getElem?_cons_succ, List.set_cons_zero, List.set_cons_succ, List.map_cons, List.map_nil, List.cons_append, List.nil_append, List.reduceReplicate, Option.getD_some, List.length_cons, List.length_nil, List.getD_cons_zero, List.getD_cons_succ, Nat.reduceAdd, Nat.reduceSub, Option.map_some, if_true, if_false, ite_true, ite_false, Bool.false_eq_true, reduceIte, Nat.reduceLeDiff, Nat.reduceEqDiff, Int.reduceEq, Int.reduceNe, Int.reduceLT, Int.reduceLE, Int.reduceNeg, Int.reducePow, ne_eq, not_false_eq_true, decide_true, decide_false, true_and, and_true, true_or, or_true, and_self, Bool.not_true, Bool.not_false, reduceCtorEq, sFor, dl_length, fSub_i, negF_1, r3]
  rw [m1]
  simp only [Int.ofNat_lt, Int.ofNat_le, bind_ok, bind_exc, bind_stuck, sizeLine_eq, fMod_i, fFdiv_i, fMul_i, fMul_i1, fMul_i2, fm0, fm1, fAdd_i, fSub_i, fPow_i, fAdd_l, fAdd_t, fAdd_s, fLt_i, fLe_i, fGt_i, fGe_i, evO, resW, evR, bPrim, bC, bVar, tTru, tBool, tNotB, tAndB, tOrB, bAnd, bOr, bNot, bIf, wIf, evX, bTup, wLst, wPrim, wVal, eFrz, wCall, sOk, sRet, sSet, sIf, sSeq, sDrop, sPar, evW, setAll, Tg.asg, Tg.asgs, mMut, sPutL, bGet, sPutD, wDisp, ePub, bIxL, sPutS, mChk, mInt, D.isStr, D.isInt, D.tru, fLen_l, fLen_t, List.length_map, iVal, itemsD, iRange, plainS, wipeE, backE, wComp, wCompB, List.all_cons, List.all_nil, Slot.isVal, Bool.and_true, Bool.true_and, Bool.and_self, fsem, env0, fill, wMove, Slot.frz, List.getElem?_cons_zero, List.getElem?_cons_succ, List.set_cons_zero, List.set_cons_succ, List.map_cons, List.map_nil, List.cons_append, List.nil_append, List.reduceReplicate, Option.getD_some, List.length_cons, List.length_nil, List.getD_cons_zero, List.getD_cons_succ, Nat.reduceAdd, Nat.reduceSub, Option.map_some, if_true, if_false, ite_true, ite_false, Bool.false_eq_true, reduceIte, Nat.reduceLeDiff, Nat.reduceEqDiff, Int.reduceEq, Int.reduceNe, Int.reduceLT, Int.reduceLE, Int.reduceNeg, Int.reducePow, ne_eq, not_false_eq_true, decide_true, decide_false, true_and, and_true, true_or, or_true, and_self, Bool.not_true, Bool.not_false, reduceCtorEq]

/-! ### all like pairs, the common row -/
def prD (ps : List (Nat × Nat)) : List D := ps.map fun p => .tup [.int (p.1 : Nat), .int (p.2 : Nat)]
/-- what stands beside one line -/
def rowF (x : Str) (k : Nat) : D → Option D
  | .tup [.int j, .str y] => if x = y then some (.tup [.int (k : Nat), .int j]) else none
  | _ => none
theorem rowF_ok (x : Str) (k : Nat) : ∀ (j : Nat) (ys : List Str), (enumD j (dl ys)).filterMap (rowF x k) = prD ((alR x j ys).map fun j => (k, j))
  | j, [] => rfl
  | j, y :: ys => by
    have ih := rowF_ok x k (j + 1) ys
    show (D.tup [.int (j : Nat), .str y] :: enumD (j + 1) (dl ys)).filterMap (rowF x k) = _
    unfold alR
    by_cases h : x = y
    · rw [if_pos h, List.filterMap_cons_some (show rowF x k (D.tup [.int (j : Nat), .str y]) = some (.tup [.int (k : Nat), .int (j : Nat)]) from if_pos h), ih]
      rfl
    · rw [if_neg h, List.filterMap_cons_none (show rowF x k (D.tup [.int (j : Nat), .str y]) = none from if_neg h), ih]
def outFl (other : List Str) : D → List D
  | .tup [.int k, .str x] => prD ((alR x 0 other).map fun j => (k.toNat, j))
  | _ => []
theorem outFl_ok (other : List Str) : ∀ (k : Nat) (xs : List Str), (enumD k (dl xs)).flatMap (outFl other) = prD (al k xs other)
  | k, [] => rfl
  | k, x :: xs => by
    have ih := outFl_ok other (k + 1) xs
    show (D.tup [.int (k : Nat), .str x] :: enumD (k + 1) (dl xs)).flatMap (outFl other) = _
    rw [List.flatMap_cons, ih, show al k (x :: xs) other = (alR x 0 other).map (fun j => (k, j)) ++ al (k + 1) xs other from rfl]
    unfold prD
    rw [List.map_append]
    rfl
theorem enum_mem {xs : List Str} {d : D} : ∀ {k : Nat}, d ∈ enumD k (dl xs) → ∃ (j : Nat) (x : Str), d = .tup [.int (j : Nat), .str x] := by
  induction xs with
  | nil => intro k h; cases h
  | cons x xs ih =>
    intro k h
    rcases List.mem_cons.mp h with h | h
    · exact ⟨k, x, h⟩
    · exact ih h
theorem alike_ok {one other : List Str} (h1 : one.length ≤ 60) (ho : other.length ≤ 60) (S : Sto) : F_alike [.tup (dl one), .tup (dl other)] S = .ok (.own (prD (al 0 one other))) [] S := by
  have hl := al_len (other := other) (xs := one) (k := 0)
  have hl2 : one.length * other.length ≤ 60 * 60 := Nat.mul_le_mul h1 ho
  have main := compB_run (vs := [2, 3, 4, 5]) (t := .tp [.nm 2, .nm 3]) (B := turn2 (iRange fEnumT [.sl 1]) [4, 5] (.tp [.nm 4, .nm 5]) (tBool (bPrim fEq [.sl 3, .sl 5])) (bTup [bVar 2, bVar 4]))
    (e0 := [some (.val (.tup (dl one))), some (.val (.tup (dl other))), none, none, none, none]) (S0 := S) 3600 (outFl other) (enumD 0 (dl one)) [] (by rw [outFl_ok, List.nil_append]; unfold prD; rw [List.length_map]; omega) fun d hd => by
      obtain ⟨k, x, rfl⟩ := enum_mem hd
      refine ⟨[some (.val (.tup (dl one))), some (.val (.tup (dl other))), some (.val (.int (k : Nat))), some (.val (.str x)), none, none], rfl, fun acc hz => ⟨[some (.val (.tup (dl one))), some (.val (.tup (dl other))), some (.val (.int (k : Nat))), some (.val (.str x)), none, none], ?_, ?_⟩⟩
      · have hz2 : acc.length + (enumD 0 (dl other)).length ≤ 16777216 := by rw [enumD_length, dl_length]; omega
        have inner := compF_run (vs := [4, 5]) (t := .tp [.nm 4, .nm 5]) (tt := tBool (bPrim fEq [.sl 3, .sl 5])) (m := bTup [bVar 2, bVar 4]) (e0 := [some (.val (.tup (dl one))), some (.val (.tup (dl other))), some (.val (.int (k : Nat))), some (.val (.str x)), none, none]) (S0 := S) (rowF x k) (enumD 0 (dl other)) acc hz2 fun d hd => by
          obtain ⟨j, y, rfl⟩ := enum_mem hd
          refine ⟨[some (.val (.tup (dl one))), some (.val (.tup (dl other))), some (.val (.int (k : Nat))), some (.val (.str x)), some (.val (.int (j : Nat))), some (.val (.str y))], rfl, ?_⟩
          by_cases h : x = y
          · rw [show rowF x k (D.tup [.int (j : Nat), .str y]) = some (.tup [.int (k : Nat), .int (j : Nat)]) from if_pos h]
            refine ⟨[some (.val (.tup (dl one))), some (.val (.tup (dl other))), some (.val (.int (k : Nat))), some (.val (.str x)), some (.val (.int (j : Nat))), some (.val (.str y))], [some (.val (.tup (dl one))), some (.val (.tup (dl other))), some (.val (.int (k : Nat))), some (.val (.str x)), some (.val (.int (j : Nat))), some (.val (.str y))], ?_, ?_, rfl⟩
            · simp only [Int.ofNat_lt, Int.ofNat_le, bind_ok, bind_exc, bind_stuck, sizeLine_eq, fMod_i, fFdiv_i, fMul_i, fMul_i1, fMul_i2, fm0, fm1, fAdd_i, fSub_i, fPow_i, fAdd_l, fAdd_t, fAdd_s, fLt_i, fLe_i, fGt_i, fGe_i, evO, resW, evR, bPrim, bC, bVar, tTru, tBool, tNotB, tAndB, tOrB, bAnd, bOr, bNot, bIf, wIf, evX, bTup, wLst, wPrim, wVal, eFrz, wCall, sOk, sRet, sSet, sIf, sSeq, sDrop, sPar, evW, setAll, Tg.asg, Tg.asgs, mMut, sPutL, bGet, sPutD, wDisp, ePub, bIxL, sPutS, mChk, mInt, D.isStr, D.isInt, D.tru, fLen_l, fLen_t, List.length_map, iVal, itemsD, iRange, plainS, wipeE, backE, wComp, wCompB, List.all_cons, List.all_nil, Slot.isVal, Bool.and_true, Bool.true_and, Bool.and_self, fsem, env0, fill, wMove, Slot.frz, List.getElem?_cons_zero, List.getElem?_cons_succ, List.set_cons_zero, List.set_cons_succ, List.map_cons, List.map_nil, List.cons_append, List.nil_append, List.reduceReplicate, Option.getD_some, List.length_cons, List.length_nil, List.getD_cons_zero, List.getD_cons_succ, Nat.reduceAdd, Nat.reduceSub, Option.map_some, if_true, if_false, ite_true, ite_false, Bool.false_eq_true, reduceIte, Nat.reduceLeDiff, Nat.reduceEqDiff, Int.reduceEq, Int.reduceNe, Int.reduceLT, Int.reduceLE, Int.reduceNeg, Int.reducePow, ne_eq, not_false_eq_true, decide_true, decide_false, true_and, and_true, true_or, or_true, and_self, Bool.not_true, Bool.not_false, reduceCtorEq, eq_str, h]
            · simp only [Int.ofNat_lt, Int.ofNat_le, bind_ok, bind_exc, bind_stuck, sizeLine_eq, fMod_i, fFdiv_i, fMul_i, fMul_i1, fMul_i2, fm0, fm1, fAdd_i, fSub_i, fPow_i, fAdd_l, fAdd_t, fAdd_s, fLt_i, fLe_i, fGt_i, fGe_i, evO, resW, evR, bPrim, bC, bVar, tTru, tBool, tNotB, tAndB, tOrB, bAnd, bOr, bNot, bIf, wIf, evX, bTup, wLst, wPrim, wVal, eFrz, wCall, sOk, sRet, sSet, sIf, sSeq, sDrop, sPar, evW, setAll, Tg.asg, Tg.asgs, mMut, sPutL, bGet, sPutD, wDisp, ePub, bIxL, sPutS, mChk, mInt, D.isStr, D.isInt, D.tru, fLen_l, fLen_t, List.length_map, iVal, itemsD, iRange, plainS, wipeE, backE, wComp, wCompB, List.all_cons, List.all_nil, Slot.isVal, Bool.and_true, Bool.true_and, Bool.and_self, fsem, env0, fill, wMove, Slot.frz, List.getElem?_cons_zero, List.getElem?_cons_succ, List.set_cons_zero, List.set_cons_succ, List.map_cons, List.map_nil, List.cons_append, List.nil_append, List.reduceReplicate, Option.getD_some, List.length_cons, List.length_nil, List.getD_cons_zero, List.getD_cons_succ, Nat.reduceAdd, Nat.reduceSub, Option.map_some, if_true, if_false, ite_true, ite_false, Bool.false_eq_true, reduceIte, Nat.reduceLeDiff, Nat.reduceEqDiff, Int.reduceEq, Int.reduceNe, Int.reduceLT, Int.reduceLE, Int.reduceNeg, Int.reducePow, ne_eq, not_false_eq_true, decide_true, decide_false, true_and, and_true, true_or, or_true, and_self, Bool.not_true, Bool.not_false, reduceCtorEq]
          · rw [show rowF x k (D.tup [.int (j : Nat), .str y]) = none from if_neg h]
            refine ⟨[some (.val (.tup (dl one))), some (.val (.tup (dl other))), some (.val (.int (k : Nat))), some (.val (.str x)), some (.val (.int (j : Nat))), some (.val (.str y))], ?_, rfl⟩
            simp only [Int.ofNat_lt, Int.ofNat_le, bind_ok, bind_exc, bind_stuck, sizeLine_eq, fMod_i, fFdiv_i, fMul_i, fMul_i1, fMul_i2, fm0, fm1, fAdd_i, fSub_i, fPow_i, fAdd_l, fAdd_t, fAdd_s, fLt_i, fLe_i, fGt_i, fGe_i, evO, resW, evR, bPrim, bC, bVar, tTru, tBool, tNotB, tAndB, tOrB, bAnd, bOr, bNot, bIf, wIf, evX, bTup, wLst, wPrim, wVal, eFrz, wCall, sOk, sRet, sSet, sIf, sSeq, sDrop, sPar, evW, setAll, Tg.asg, Tg.asgs, mMut, sPutL, bGet, sPutD, wDisp, ePub, bIxL, sPutS, mChk, mInt, D.isStr, D.isInt, D.tru, fLen_l, fLen_t, List.length_map, iVal, itemsD, iRange, plainS, wipeE, backE, wComp, wCompB, List.all_cons, List.all_nil, Slot.isVal, Bool.and_true, Bool.true_and, Bool.and_self, fsem, env0, fill, wMove, Slot.frz, List.getElem?_cons_zero, List.getElem?_cons_succ, List.set_cons_zero, List.set_cons_succ, List.map_cons, List.map_nil, List.cons_append, List.nil_append, List.reduceReplicate, Option.getD_some, List.length_cons, List.length_nil, List.getD_cons_zero, List.getD_cons_succ, Nat.reduceAdd, Nat.reduceSub, Option.map_some, if_true, if_false, ite_true, ite_false, Bool.false_eq_true, reduceIte, Nat.reduceLeDiff, Nat.reduceEqDiff, Int.reduceEq, Int.reduceNe, Int.reduceLT, Int.reduceLE, Int.reduceNeg, Int.reducePow, ne_eq, not_false_eq_true, decide_true, decide_false, true_and, and_true, true_or, or_true, and_self, Bool.not_true, Bool.not_false, reduceCtorEq, eq_str, h]
        rw [rowF_ok] at inner
        simp only [turn2, Int.ofNat_lt, Int.ofNat_le, bind_ok, bind_exc, bind_stuck, sizeLine_eq, fMod_i, fFdiv_i, fMul_i, fMul_i1, fMul_i2, fm0, fm1, fAdd_i, fSub_i, fPow_i, fAdd_l, fAdd_t, fAdd_s, fLt_i, fLe_i, fGt_i, fGe_i, evO, resW, evR, bPrim, bC, bVar, tTru, tBool, tNotB, tAndB, tOrB, bAnd, bOr, bNot, bIf, wIf, evX, bTup, wLst, wPrim, wVal, eFrz, wCall, sOk, sRet, sSet, sIf, sSeq, sDrop, sPar, evW, setAll, Tg.asg, Tg.asgs, mMut, sPutL, bGet, sPutD, wDisp, ePub, bIxL, sPutS, mChk, mInt, D.isStr, D.isInt, D.tru, fLen_l, fLen_t, List.length_map, iVal, itemsD, iRange, plainS, wipeE, backE, wComp, wCompB, List.all_cons, List.all_nil, Slot.isVal, Bool.and_true, Bool.true_and, Bool.and_self, fsem, env0, fill, wMove, Slot.frz, List.getElem?_cons_zero, List.getElem?_cons_succ, List.set_cons_zero, List.set_cons_succ, List.map_cons, List.map_nil, List.cons_append, List.nil_append, List.reduceReplicate, Option.getD_some, List.length_cons, List.length_nil, List.getD_cons_zero, List.getD_cons_succ, Nat.reduceAdd, Nat.reduceSub, Option.map_some, if_true, if_false, ite_true, ite_false, Bool.false_eq_true, reduceIte, Nat.reduceLeDiff, Nat.reduceEqDiff, Int.reduceEq, Int.reduceNe, Int.reduceLT, Int.reduceLE, Int.reduceNeg, Int.reducePow, ne_eq, not_false_eq_true, decide_true, decide_false, true_and, and_true, true_or, or_true, and_self, Bool.not_true, Bool.not_false, reduceCtorEq, fEnumT]
        exact inner
      · rfl
  rw [outFl_ok, List.nil_append] at main
  simp only [F_alike, m_alike, wComp2, Int.ofNat_lt, Int.ofNat_le, bind_ok, bind_exc, bind_stuck, sizeLine_eq, fMod_i, fFdiv_i, fMul_i, fMul_i1, fMul_i2, fm0, fm1, fAdd_i, fSub_i, fPow_i, fAdd_l, fAdd_t, fAdd_s, fLt_i, fLe_i, fGt_i, fGe_i, evO, resW, evR, bPrim, bC, bVar, tTru, tBool, tNotB, tAndB, tOrB, bAnd, bOr, bNot, bIf, wIf, evX, bTup, wLst, wPrim, wVal, eFrz, wCall, sOk, sRet, sSet, sIf, sSeq, sDrop, sPar, evW, setAll, Tg.asg, Tg.asgs, mMut, sPutL, bGet, sPutD, wDisp, ePub, bIxL, sPutS, mChk, mInt, D.isStr, D.isInt, D.tru, fLen_l, fLen_t, List.length_map, iVal, itemsD, iRange, plainS, wipeE, backE, wComp, wCompB, List.all_cons, List.all_nil, Slot.isVal, Bool.and_true, Bool.true_and, Bool.and_self, fsem, env0, fill, wMove, Slot.frz, List.getElem?_cons_zero, List.getElem?_cons_succ, List.set_cons_zero, List.set_cons_succ, List.map_cons, List.map_nil, List.cons_append, List.nil_append, List.reduceReplicate, Option.getD_some, List.length_cons, List.length_nil, List.getD_cons_zero, List.getD_cons_succ, Nat.reduceAdd, Nat.reduceSub, Option.map_some, if_true, if_false, ite_true, ite_false, Bool.false_eq_true, reduceIte, Nat.reduceLeDiff, Nat.reduceEqDiff, Int.reduceEq, Int.reduceNe, Int.reduceLT, Int.reduceLE, Int.reduceNeg, Int.reducePow, ne_eq, not_false_eq_true, decide_true, decide_false, true_and, and_true, true_or, or_true, and_self, Bool.not_true, Bool.not_false, reduceCtorEq, fEnumT]
  rw [main]
  simp only [Int.ofNat_lt, Int.ofNat_le, bind_ok, bind_exc, bind_stuck, sizeLine_eq, fMod_i, fFdiv_i, fMul_i, fMul_i1, fMul_i2, fm0, fm1, fAdd_i, fSub_i, fPow_i, fAdd_l, fAdd_t, fAdd_s, fLt_i, fLe_i, fGt_i, fGe_i, evO, resW, evR, bPrim, bC, bVar, tTru, tBool, tNotB, tAndB, tOrB, bAnd, bOr, bNot, bIf, wIf, evX, bTup, wLst, wPrim, wVal, eFrz, wCall, sOk, sRet, sSet, sIf, sSeq, sDrop, sPar, evW, setAll, Tg.asg, Tg.asgs, mMut, sPutL, bGet, sPutD, wDisp, ePub, bIxL, sPutS, mChk, mInt, D.isStr, D.isInt, D.tru, fLen_l, fLen_t, List.length_map, iVal, itemsD, iRange, plainS, wipeE, backE, wComp, wCompB, List.all_cons, List.all_nil, Slot.isVal, Bool.and_true, Bool.true_and, Bool.and_self, fsem, env0, fill, wMove, Slot.frz, List.getElem?_cons_zero, List.getElem?_cons_succ, List.set_cons_zero, List.set_cons_succ, List.map_cons, List.map_nil, List.cons_append, List.nil_append, List.reduceReplicate, Option.getD_some, List.length_cons, List.length_nil, List.getD_cons_zero, List.getD_cons_succ, Nat.reduceAdd, Nat.reduceSub, Option.map_some, if_true, if_false, ite_true, ite_false, Bool.false_eq_true, reduceIte, Nat.reduceLeDiff, Nat.reduceEqDiff, Int.reduceEq, Int.reduceNe, Int.reduceLT, Int.reduceLE, Int.reduceNeg, Int.reducePow, ne_eq, not_false_eq_true, decide_true, decide_false, true_and, and_true, true_or, or_true, and_self, Bool.not_true, Bool.not_false, reduceCtorEq]

def rowB : Sm := sSeq (sIf (tAndB (tBool (bPrim fGe [.sl 6, .sl 4])) (tAndB (tBool (bPrim fGe [.sl 7, .sl 5])) (tBool (bPrim fEq [.ex (bPrim fAdd [.ex (bIxL (bPrim fIx [.sl 2, .ex (bPrim fAdd [.sl 6, .ex (bC (.int 1))])]) (bPrim fAdd [.sl 7, .ex (bC (.int 1))])), .ex (bC (.int 1))]), .ex (bIxL (bPrim fIx [.sl 2, .sl 4]) (bVar 5))])))) (sSeq (sDrop (mMut 3 mfAppend [bTup [bVar 6, bVar 7]])) (sSeq (sPar [4, 5] [wPrim fAdd [.sl 6, .ex (bC (.int 1))], wPrim fAdd [.sl 7, .ex (bC (.int 1))]]) (sOk .next))) (sOk .next)) (sOk .next)
def envR (one other : List Str) (b : Nat) (found : List D) (i j : Nat) (x6 x7 : Option Slot) : Env := [some (.val (.tup (dl one))), some (.val (.tup (dl other))), some (.own (refs b one.length)), some (.own found), some (.val (.int (i : Nat))), some (.val (.int (j : Nat))), x6, x7]
theorem ge_n (a b : Nat) : fGe [.int (a : Nat), .int (b : Nat)] = some (.bl (decide (b ≤ a))) := by
  show some (D.bl (decide ((b : Int) ≤ (a : Int)))) = _
  congr 2
  exact decide_eq_decide.mpr (by omega)
theorem eq_n (a b : Nat) : fEq [.int (a : Nat), .int (b : Nat)] = some (.bl (decide (a = b))) := by
  rw [eq_i]
  congr 2
  exact decide_eq_decide.mpr (by omega)
theorem row_step {one other : List Str} {S0 : Sto} {h t i j : Nat} {found : List D} {x6 x7 : Option Slot} (hh : h < one.length) (ht : t < other.length) (hi : i ≤ one.length) (hj : j ≤ other.length) (hf : found.length < 16777216) (ds : List D) :
    forL (.tp [.nm 6, .nm 7]) rowB (.tup [.int (h : Nat), .int (t : Nat)] :: ds) (envR one other S0.length found i j x6 x7) (S0 ++ stT (L one other) one.length other.length) =
      if i ≤ h ∧ j ≤ t ∧ L one other (h + 1) (t + 1) + 1 = L one other i j then forL (.tp [.nm 6, .nm 7]) rowB ds (envR one other S0.length (found ++ [.tup [.int (h : Nat), .int (t : Nat)]]) (h + 1) (t + 1) (some (.val (.int (h : Nat)))) (some (.val (.int (t : Nat))))) (S0 ++ stT (L one other) one.length other.length)
      else forL (.tp [.nm 6, .nm 7]) rowB ds (envR one other S0.length found i j (some (.val (.int (h : Nat)))) (some (.val (.int (t : Nat))))) (S0 ++ stT (L one other) one.length other.length) := by
  have g1 : fIx [.lst (refs S0.length one.length), .int ((h + 1 : Nat) : Int)] = some (.ref (S0.length + (h + 1))) := by rw [fIx_l, refs_get (by omega)]
  have g2 : fIx [.lst (refs S0.length one.length), .int (i : Int)] = some (.ref (S0.length + i)) := by rw [fIx_l, refs_get hi]
  have l1 := lget_tab (S0 := S0) (f := L one other) (n := one.length) (m := other.length) (show h + 1 ≤ one.length by omega) (show t + 1 ≤ other.length by omega)
  have l2 := lget_tab (S0 := S0) (f := L one other) (n := one.length) (m := other.length) hi hj
  have hz : found.length + 1 ≤ 16777216 := by omega
  rw [forL]
  by_cases q1 : i ≤ h
  · by_cases q2 : j ≤ t
    · by_cases q3 : L one other (h + 1) (t + 1) + 1 = L one other i j
      · rw [if_pos ⟨q1, q2, q3⟩]
        simp only [rowB, envR, Int.ofNat_lt, Int.ofNat_le, bind_ok, bind_exc, bind_stuck, sizeLine_eq, fMod_i, fFdiv_i, fMul_i, fMul_i1, fMul_i2, fm0, fm1, fAdd_i, fSub_i, fPow_i, fAdd_l, fAdd_t, fAdd_s, fLt_i, fLe_i, fGt_i, fGe_i, evO, resW, evR, bPrim, bC, bVar, tTru, tBool, tNotB, tAndB, tOrB, bAnd, bOr, bNot, bIf, wIf, evX, bTup, wLst, wPrim, wVal, eFrz, wCall, sOk, sRet, sSet, sIf, sSeq, sDrop, sPar, evW, setAll, Tg.asg, Tg.asgs, mMut, sPutL, bGet, sPutD, wDisp, ePub, bIxL, sPutS, mChk, mInt, D.isStr, D.isInt, D.tru, fLen_l, fLen_t, List.length_map, iVal, itemsD, iRange, plainS, wipeE, backE, wComp, wCompB, List.all_cons, List.all_nil, Slot.isVal, Bool.and_true, Bool.true_and, Bool.and_self, fsem, env0, fill, wMove, Slot.frz, List.getElem?_cons_zero, List.getElem?_cons_succ, List.set_cons_zero, List.set_cons_succ, List.map_cons, List.map_nil, List.cons_append, List.nil_append, List.reduceReplicate, Option.getD_some, List.length_cons, List.length_nil, List.getD_cons_zero, List.getD_cons_succ, Nat.reduceAdd, Nat.reduceSub, Option.map_some, if_true, if_false, ite_true, ite_false, Bool.false_eq_true, reduceIte, Nat.reduceLeDiff, Nat.reduceEqDiff, Int.reduceEq, Int.reduceNe, Int.reduceLT, Int.reduceLE, Int.reduceNeg, Int.reducePow, ne_eq, not_false_eq_true, decide_true, decide_false, true_and, and_true, true_or, or_true, and_self, Bool.not_true, Bool.not_false, reduceCtorEq, Int.ofNat_le, q1, q2, g1, g2, cast1, l1, l2, eq_n, q3, mfAppend, List.length_append, hz]
      · rw [if_neg (fun z => q3 z.2.2)]
        simp only [rowB, envR, Int.ofNat_lt, Int.ofNat_le, bind_ok, bind_exc, bind_stuck, sizeLine_eq, fMod_i, fFdiv_i, fMul_i, fMul_i1, fMul_i2, fm0, fm1, fAdd_i, fSub_i, fPow_i, fAdd_l, fAdd_t, fAdd_s, fLt_i, fLe_i, fGt_i, fGe_i, evO, resW, evR, bPrim, bC, bVar, tTru, tBool, tNotB, tAndB, tOrB, bAnd, bOr, bNot, bIf, wIf, evX, bTup, wLst, wPrim, wVal, eFrz, wCall, sOk, sRet, sSet, sIf, sSeq, sDrop, sPar, evW, setAll, Tg.asg, Tg.asgs, mMut, sPutL, bGet, sPutD, wDisp, ePub, bIxL, sPutS, mChk, mInt, D.isStr, D.isInt, D.tru, fLen_l, fLen_t, List.length_map, iVal, itemsD, iRange, plainS, wipeE, backE, wComp, wCompB, List.all_cons, List.all_nil, Slot.isVal, Bool.and_true, Bool.true_and, Bool.and_self, fsem, env0, fill, wMove, Slot.frz, List.getElem?_cons_zero, List.getElem?_cons_succ, List.set_cons_zero, List.set_cons_succ, List.map_cons, List.map_nil, List.cons_append, List.nil_append, List.reduceReplicate, Option.getD_some, List.length_cons, List.length_nil, List.getD_cons_zero, List.getD_cons_succ, Nat.reduceAdd, Nat.reduceSub, Option.map_some, if_true, if_false, ite_true, ite_false, Bool.false_eq_true, reduceIte, Nat.reduceLeDiff, Nat.reduceEqDiff, Int.reduceEq, Int.reduceNe, Int.reduceLT, Int.reduceLE, Int.reduceNeg, Int.reducePow, ne_eq, not_false_eq_true, decide_true, decide_false, true_and, and_true, true_or, or_true, and_self, Bool.not_true, Bool.not_false, reduceCtorEq, Int.ofNat_le, q1, q2, g1, g2, cast1, l1, l2, eq_n, q3]
    · rw [if_neg (fun z => q2 z.2.1)]
      simp only [rowB, envR, Int.ofNat_lt, Int.ofNat_le, bind_ok, bind_exc, bind_stuck, sizeLine_eq, fMod_i, fFdiv_i, fMul_i, fMul_i1, fMul_i2, fm0, fm1, fAdd_i, fSub_i, fPow_i, fAdd_l, fAdd_t, fAdd_s, fLt_i, fLe_i, fGt_i, fGe_i, evO, resW, evR, bPrim, bC, bVar, tTru, tBool, tNotB, tAndB, tOrB, bAnd, bOr, bNot, bIf, wIf, evX, bTup, wLst, wPrim, wVal, eFrz, wCall, sOk, sRet, sSet, sIf, sSeq, sDrop, sPar, evW, setAll, Tg.asg, Tg.asgs, mMut, sPutL, bGet, sPutD, wDisp, ePub, bIxL, sPutS, mChk, mInt, D.isStr, D.isInt, D.tru, fLen_l, fLen_t, List.length_map, iVal, itemsD, iRange, plainS, wipeE, backE, wComp, wCompB, List.all_cons, List.all_nil, Slot.isVal, Bool.and_true, Bool.true_and, Bool.and_self, fsem, env0, fill, wMove, Slot.frz, List.getElem?_cons_zero, List.getElem?_cons_succ, List.set_cons_zero, List.set_cons_succ, List.map_cons, List.map_nil, List.cons_append, List.nil_append, List.reduceReplicate, Option.getD_some, List.length_cons, List.length_nil, List.getD_cons_zero, List.getD_cons_succ, Nat.reduceAdd, Nat.reduceSub, Option.map_some, if_true, if_false, ite_true, ite_false, Bool.false_eq_true, reduceIte, Nat.reduceLeDiff, Nat.reduceEqDiff, Int.reduceEq, Int.reduceNe, Int.reduceLT, Int.reduceLE, Int.reduceNeg, Int.reducePow, ne_eq, not_false_eq_true, decide_true, decide_false, true_and, and_true, true_or, or_true, and_self, Bool.not_true, Bool.not_false, reduceCtorEq, Int.ofNat_le, q1, q2]
  · rw [if_neg (fun z => q1 z.1)]
    simp only [rowB, envR, Int.ofNat_lt, Int.ofNat_le, bind_ok, bind_exc, bind_stuck, sizeLine_eq, fMod_i, fFdiv_i, fMul_i, fMul_i1, fMul_i2, fm0, fm1, fAdd_i, fSub_i, fPow_i, fAdd_l, fAdd_t, fAdd_s, fLt_i, fLe_i, fGt_i, fGe_i, evO, resW, evR, bPrim, bC, bVar, tTru, tBool, tNotB, tAndB, tOrB, bAnd, bOr, bNot, bIf, wIf, evX, bTup, wLst, wPrim, wVal, eFrz, wCall, sOk, sRet, sSet, sIf, sSeq, sDrop, sPar, evW, setAll, Tg.asg, Tg.asgs, mMut, sPutL, bGet, sPutD, wDisp, ePub, bIxL, sPutS, mChk, mInt, D.isStr, D.isInt, D.tru, fLen_l, fLen_t, List.length_map, iVal, itemsD, iRange, plainS, wipeE, backE, wComp, wCompB, List.all_cons, List.all_nil, Slot.isVal, Bool.and_true, Bool.true_and, Bool.and_self, fsem, env0, fill, wMove, Slot.frz, List.getElem?_cons_zero, List.getElem?_cons_succ, List.set_cons_zero, List.set_cons_succ, List.map_cons, List.map_nil, List.cons_append, List.nil_append, List.reduceReplicate, Option.getD_some, List.length_cons, List.length_nil, List.getD_cons_zero, List.getD_cons_succ, Nat.reduceAdd, Nat.reduceSub, Option.map_some, if_true, if_false, ite_true, ite_false, Bool.false_eq_true, reduceIte, Nat.reduceLeDiff, Nat.reduceEqDiff, Int.reduceEq, Int.reduceNe, Int.reduceLT, Int.reduceLE, Int.reduceNeg, Int.reducePow, ne_eq, not_false_eq_true, decide_true, decide_false, true_and, and_true, true_or, or_true, and_self, Bool.not_true, Bool.not_false, reduceCtorEq, Int.ofNat_le, q1]
theorem row_loop {one other : List Str} {S0 : Sto} : ∀ (Q : List (Nat × Nat)) (i j : Nat) (found : List D) (x6 x7 : Option Slot), (∀ q ∈ Q, Like one other q) → i ≤ one.length → j ≤ other.length → found.length + Q.length < 16777216 →
    ∃ i' j' x6' x7', forL (.tp [.nm 6, .nm 7]) rowB (prD Q) (envR one other S0.length found i j x6 x7) (S0 ++ stT (L one other) one.length other.length) =
      .ok .next (envR one other S0.length (found ++ prD (sel one other Q i j)) i' j' x6' x7') (S0 ++ stT (L one other) one.length other.length)
  | [], i, j, found, x6, x7, _, _, _, _ => ⟨i, j, x6, x7, by unfold sel prD; rw [List.map_nil, List.append_nil]; rfl⟩
  | (h, t) :: Q, i, j, found, x6, x7, hl, hi, hj, hz => by
    rw [List.length_cons] at hz
    obtain ⟨x, k1, k2⟩ := hl (h, t) List.mem_cons_self
    have hh := (List.getElem?_eq_some_iff.mp k1).1
    have ht := (List.getElem?_eq_some_iff.mp k2).1
    have st := row_step (S0 := S0) (found := found) (x6 := x6) (x7 := x7) hh ht hi hj (by omega) (prD Q)
    show ∃ i' j' x6' x7', forL (.tp [.nm 6, .nm 7]) rowB (.tup [.int (h : Nat), .int (t : Nat)] :: prD Q) _ _ = _
    rw [st]
    unfold sel
    by_cases q : i ≤ h ∧ j ≤ t ∧ L one other (h + 1) (t + 1) + 1 = L one other i j
    · rw [if_pos q, if_pos q]
      obtain ⟨i', j', x6', x7', e⟩ := row_loop (S0 := S0) Q (h + 1) (t + 1) (found ++ [.tup [.int (h : Nat), .int (t : Nat)]]) (some (.val (.int (h : Nat)))) (some (.val (.int (t : Nat)))) (fun q hq => hl q (List.mem_cons_of_mem _ hq)) hh ht (by rw [List.length_append, List.length_singleton]; omega)
      refine ⟨i', j', x6', x7', ?_⟩
      rw [e, List.append_assoc]
      rfl
    · rw [if_neg q, if_neg q]
      exact row_loop (S0 := S0) Q i j found _ _ (fun q hq => hl q (List.mem_cons_of_mem _ hq)) hi hj (by omega)
theorem row_of_ok {one other : List Str} (h1 : one.length ≤ 60) (ho : other.length ≤ 60) (S : Sto) : F_row_of [.tup (dl one), .tup (dl other)] S = .ok (.own (prD (comm one other))) [] (S ++ stT (L one other) one.length other.length) := by
  have hl := al_len (other := other) (xs := one) (k := 0)
  have hl2 : one.length * other.length ≤ 60 * 60 := Nat.mul_le_mul h1 ho
  obtain ⟨i', j', x6', x7', e⟩ := row_loop (S0 := S) (al 0 one other) 0 0 [] none none (fun q h => al_like.mp h) (Nat.zero_le _) (Nat.zero_le _) (by rw [List.length_nil]; omega)
  rw [List.nil_append] at e
  unfold rowB envR at e
  have e0 : ((0 : Nat) : Int) = 0 := rfl
  rw [e0] at e
  simp only [F_row_of, m_row_of, Int.ofNat_lt, Int.ofNat_le, bind_ok, bind_exc, bind_stuck, sizeLine_eq, fMod_i, fFdiv_i, fMul_i, fMul_i1, fMul_i2, fm0, fm1, fAdd_i, fSub_i, fPow_i, fAdd_l, fAdd_t, fAdd_s, fLt_i, fLe_i, fGt_i, fGe_i, evO, resW, evR, bPrim, bC, bVar, tTru, tBool, tNotB, tAndB, tOrB, bAnd, bOr, bNot, bIf, wIf, evX, bTup, wLst, wPrim, wVal, eFrz, wCall, sOk, sRet, sSet, sIf, sSeq, sDrop, sPar, evW, setAll, Tg.asg, Tg.asgs, mMut, sPutL, bGet, sPutD, wDisp, ePub, bIxL, sPutS, mChk, mInt, D.isStr, D.isInt, D.tru, fLen_l, fLen_t, List.length_map, iVal, itemsD, iRange, plainS, wipeE, backE, wComp, wCompB, List.all_cons, List.all_nil, Slot.isVal, Bool.and_true, Bool.true_and, Bool.and_self, fsem, env0, fill, wMove, Slot.frz, List.getElem?_cons_zero, List.getElem?_cons_succ, List.set_cons_zero, List.set_cons_succ, List.map_cons, List.map_nil, List.cons_append, List.nil_append, List.reduceReplicate, Option.getD_some, List.length_cons, List.length_nil, List.getD_cons_zero, List.getD_cons_succ, Nat.reduceAdd, Nat.reduceSub, Option.map_some, if_true, if_false, ite_true, ite_false, Bool.false_eq_true, reduceIte, Nat.reduceLeDiff, Nat.reduceEqDiff, Int.reduceEq, Int.reduceNe, Int.reduceLT, Int.reduceLE, Int.reduceNeg, Int.reducePow, ne_eq, not_false_eq_true, decide_true, decide_false, true_and, and_true, true_or, or_true, and_self, Bool.not_true, Bool.not_false, reduceCtorEq, longest_ok h1 ho, alike_ok h1 ho, sFor]
  rw [e]
  simp only [Int.ofNat_lt, Int.ofNat_le, bind_ok, bind_exc, bind_stuck, sizeLine_eq, fMod_i, fFdiv_i, fMul_i, fMul_i1, fMul_i2, fm0, fm1, fAdd_i, fSub_i, fPow_i, fAdd_l, fAdd_t, fAdd_s, fLt_i, fLe_i, fGt_i, fGe_i, evO, resW, evR, bPrim, bC, bVar, tTru, tBool, tNotB, tAndB, tOrB, bAnd, bOr, bNot, bIf, wIf, evX, bTup, wLst, wPrim, wVal, eFrz, wCall, sOk, sRet, sSet, sIf, sSeq, sDrop, sPar, evW, setAll, Tg.asg, Tg.asgs, mMut, sPutL, bGet, sPutD, wDisp, ePub, bIxL, sPutS, mChk, mInt, D.isStr, D.isInt, D.tru, fLen_l, fLen_t, List.length_map, iVal, itemsD, iRange, plainS, wipeE, backE, wComp, wCompB, List.all_cons, List.all_nil, Slot.isVal, Bool.and_true, Bool.true_and, Bool.and_self, fsem, env0, fill, wMove, Slot.frz, List.getElem?_cons_zero, List.getElem?_cons_succ, List.set_cons_zero, List.set_cons_succ, List.map_cons, List.map_nil, List.cons_append, List.nil_append, List.reduceReplicate, Option.getD_some, List.length_cons, List.length_nil, List.getD_cons_zero, List.getD_cons_succ, Nat.reduceAdd, Nat.reduceSub, Option.map_some, if_true, if_false, ite_true, ite_false, Bool.false_eq_true, reduceIte, Nat.reduceLeDiff, Nat.reduceEqDiff, Int.reduceEq, Int.reduceNe, Int.reduceLT, Int.reduceLE, Int.reduceNeg, Int.reducePow, ne_eq, not_false_eq_true, decide_true, decide_false, true_and, and_true, true_or, or_true, and_self, Bool.not_true, Bool.not_false, reduceCtorEq]
  rfl
theorem common_ok {one other : List Str} (h1 : Lns one) (ho : Lns other) (S : Sto) : F_common [.tup (dl one), .tup (dl other)] S = .ok (.own (prD (comm one other))) [] (S ++ stT (L one other) one.length other.length) := by
  simp only [F_common, m_common, Int.ofNat_lt, Int.ofNat_le, bind_ok, bind_exc, bind_stuck, sizeLine_eq, fMod_i, fFdiv_i, fMul_i, fMul_i1, fMul_i2, fm0, fm1, fAdd_i, fSub_i, fPow_i, fAdd_l, fAdd_t, fAdd_s, fLt_i, fLe_i, fGt_i, fGe_i, evO, resW, evR, bPrim, bC, bVar, tTru, tBool, tNotB, tAndB, tOrB, bAnd, bOr, bNot, bIf, wIf, evX, bTup, wLst, wPrim, wVal, eFrz, wCall, sOk, sRet, sSet, sIf, sSeq, sDrop, sPar, evW, setAll, Tg.asg, Tg.asgs, mMut, sPutL, bGet, sPutD, wDisp, ePub, bIxL, sPutS, mChk, mInt, D.isStr, D.isInt, D.tru, fLen_l, fLen_t, List.length_map, iVal, itemsD, iRange, plainS, wipeE, backE, wComp, wCompB, List.all_cons, List.all_nil, Slot.isVal, Bool.and_true, Bool.true_and, Bool.and_self, fsem, env0, fill, wMove, Slot.frz, List.getElem?_cons_zero, List.getElem?_cons_succ, List.set_cons_zero, List.set_cons_succ, List.map_cons, List.map_nil, List.cons_append, List.nil_append, List.reduceReplicate, Option.getD_some, List.length_cons, List.length_nil, List.getD_cons_zero, List.getD_cons_succ, Nat.reduceAdd, Nat.reduceSub, Option.map_some, if_true, if_false, ite_true, ite_false, Bool.false_eq_true, reduceIte, Nat.reduceLeDiff, Nat.reduceEqDiff, Int.reduceEq, Int.reduceNe, Int.reduceLT, Int.reduceLE, Int.reduceNeg, Int.reducePow, ne_eq, not_false_eq_true, decide_true, decide_false, true_and, and_true, true_or, or_true, and_self, Bool.not_true, Bool.not_false, reduceCtorEq, need_ok h1, need_ok ho, row_of_ok h1.len ho.len]

/-! ### the law's own table -/
def tbI : Sm := sSeq (sSet 4 (wPrim fAdd [.ex (eFrz (wLst [bIf (tBool (bPrim fEq [.ex (bPrim fIx [.sl 1, .sl 5]), .sl 3])) (bPrim fAdd [.ex (bC (.int 1)), .ex (bPrim fIx [.ex (bPrim fIx [.sl 2, .ex (bC (.int 0))]), .ex (bPrim fAdd [.sl 5, .ex (bC (.int 1))])])]) (bPrim fMax [.ex (bPrim fIx [.ex (bPrim fIx [.sl 2, .ex (bC (.int 0))]), .sl 5]), .ex (bPrim fIx [.sl 4, .ex (bC (.int 0))])])])), .sl 4])) (sOk .next)
def tbO : Sm := sSeq (sSet 4 (wLst [bC (.int 0)])) (sSeq (sFor (iRange range3 [.ex (bPrim fSub [.ex (bPrim fLen [.sl 1]), .ex (bC (.int 1))]), .ex (bPrim negF [.ex (bC (.int 1))]), .ex (bPrim negF [.ex (bC (.int 1))])]) (.nm 5) (sSeq (sSet 4 (wPrim fAdd [.ex (eFrz (wLst [bIf (tBool (bPrim fEq [.ex (bPrim fIx [.sl 1, .sl 5]), .sl 3])) (bPrim fAdd [.ex (bC (.int 1)), .ex (bPrim fIx [.ex (bPrim fIx [.sl 2, .ex (bC (.int 0))]), .ex (bPrim fAdd [.sl 5, .ex (bC (.int 1))])])]) (bPrim fMax [.ex (bPrim fIx [.ex (bPrim fIx [.sl 2, .ex (bC (.int 0))]), .sl 5]), .ex (bPrim fIx [.sl 4, .ex (bC (.int 0))])])])), .sl 4])) (sOk .next))) (sSeq (sSet 2 (wPrim fAdd [.ex (eFrz (wLst [bVar 4])), .sl 2])) (sOk .next)))
def rowD (xs other : List Str) : List D := rowL (fun j => lcs xs (other.drop j)) other.length
def tabR (other : List Str) : List Str → List D
  | [] => [.lst (rowD [] other)]
  | x :: xs => .lst (rowD (x :: xs) other) :: tabR other xs
theorem tabR_head (other xs : List Str) : (tabR other xs)[0]? = some (.lst (rowD xs other)) := by cases xs <;> rfl
theorem tabR_len (other : List Str) : ∀ xs : List Str, (tabR other xs).length = xs.length + 1
  | [] => rfl
  | x :: xs => congrArg (· + 1) (tabR_len other xs)
theorem tabR_get (other : List Str) : ∀ (xs : List Str) (i : Nat), i ≤ xs.length → (tabR other xs)[i]? = some (.lst (rowD (xs.drop i) other))
  | xs, 0, _ => tabR_head other xs
  | x :: xs, i + 1, h => by
    have := tabR_get other xs i (by simpa using h)
    simpa [tabR] using this
  | [], i + 1, h => by simp at h
def rowS (xs other : List Str) (c : Nat) : List D := (List.range (other.length + 1 - c)).map fun a => .int ((lcs xs (other.drop (c + a)) : Nat) : Int)
theorem rowS_0 (xs other : List Str) : rowS xs other 0 = rowD xs other := by
  unfold rowS rowD rowL
  simp
theorem rowS_last (xs other : List Str) : rowS xs other other.length = [.int 0] := by
  unfold rowS
  rw [show other.length + 1 - other.length = 1 by omega]
  show [D.int _] = _
  rw [Nat.add_zero, List.drop_length, lcs_nil]
  rfl
theorem rowS_step {xs other : List Str} {c : Nat} (h : c < other.length) : rowS xs other c = .int ((lcs xs (other.drop c) : Nat) : Int) :: rowS xs other (c + 1) := by
  unfold rowS
  rw [show other.length + 1 - c = (other.length + 1 - (c + 1)) + 1 by omega, List.range_succ_eq_map, List.map_cons, List.map_map]
  congr 1
  apply List.map_congr_left
  intro a _
  simp only [Function.comp]
  rw [show c + Nat.succ a = c + 1 + a by omega]
theorem rowS_head {xs other : List Str} {c : Nat} (h : c ≤ other.length) : (rowS xs other c)[0]? = some (.int ((lcs xs (other.drop c) : Nat) : Int)) := by
  unfold rowS
  rw [List.getElem?_map, List.getElem?_range (by omega)]
  rfl
theorem rowS_len (xs other : List Str) (c : Nat) : (rowS xs other c).length = other.length + 1 - c := by simp [rowS]
theorem rowD_get {xs other : List Str} {j : Nat} (h : j ≤ other.length) : (rowD xs other)[j]? = some (.int ((lcs xs (other.drop j) : Nat) : Int)) := rowL_get h
theorem fIx_l0 (ds : List D) : fIx [.lst ds, .int 0] = ds[0]? := fIx_l ds 0
theorem cast1l (a : Nat) : (1 : Int) + (a : Int) = ((a + 1 : Nat) : Int) := by omega
theorem tb_step {one other suf : List Str} {x : Str} {c : Nat} {x5 : Option Slot} (ho : other.length ≤ 60) (hc : c < other.length) (S : Sto) (ds : List D) :
    forL (.nm 5) tbI (.int (c : Nat) :: ds) [some (.val (.tup (dl one))), some (.val (.tup (dl other))), some (.own (tabR other suf)), some (.val (.str x)), some (.own (rowS (x :: suf) other (c + 1))), x5] S =
      forL (.nm 5) tbI ds [some (.val (.tup (dl one))), some (.val (.tup (dl other))), some (.own (tabR other suf)), some (.val (.str x)), some (.own (rowS (x :: suf) other c)), some (.val (.int (c : Nat)))] S := by
  have d1 : other.drop c = other[c] :: other.drop (c + 1) := List.drop_eq_getElem_cons hc
  have g1 : fIx [.lst (rowD suf other), .int ((c + 1 : Nat) : Int)] = some (.int ((lcs suf (other.drop (c + 1)) : Nat) : Int)) := by rw [fIx_l, rowD_get (by omega)]
  have g2 : fIx [.lst (rowD suf other), .int (c : Int)] = some (.int ((lcs suf (other.drop c) : Nat) : Int)) := by rw [fIx_l, rowD_get (by omega)]
  have g3 : fIx [.lst (rowS (x :: suf) other (c + 1)), .int 0] = some (.int ((lcs (x :: suf) (other.drop (c + 1)) : Nat) : Int)) := by rw [fIx_l0, rowS_head (by omega)]
  have g4 : fIx [.lst (tabR other suf), .int 0] = some (.lst (rowD suf other)) := by rw [fIx_l0, tabR_head]
  have hz : 1 + (rowS (x :: suf) other (c + 1)).length ≤ 16777216 := by rw [rowS_len]; omega
  rw [forL]
  by_cases q : other[c] = x
  · have v : lcs (x :: suf) (other.drop c) = lcs suf (other.drop (c + 1)) + 1 := by rw [d1, lcs, if_pos q.symm]
    have st := rowS_step (xs := x :: suf) hc
    rw [v] at st
    simp only [tbI, Int.ofNat_lt, Int.ofNat_le, bind_ok, bind_exc, bind_stuck, sizeLine_eq, fMod_i, fFdiv_i, fMul_i, fMul_i1, fMul_i2, fm0, fm1, fAdd_i, fSub_i, fPow_i, fAdd_l, fAdd_t, fAdd_s, fLt_i, fLe_i, fGt_i, fGe_i, evO, resW, evR, bPrim, bC, bVar, tTru, tBool, tNotB, tAndB, tOrB, bAnd, bOr, bNot, bIf, wIf, evX, bTup, wLst, wPrim, wVal, eFrz, wCall, sOk, sRet, sSet, sIf, sSeq, sDrop, sPar, evW, setAll, Tg.asg, Tg.asgs, mMut, sPutL, bGet, sPutD, wDisp, ePub, bIxL, sPutS, mChk, mInt, D.isStr, D.isInt, D.tru, fLen_l, fLen_t, List.length_map, iVal, itemsD, iRange, plainS, wipeE, backE, wComp, wCompB, List.all_cons, List.all_nil, Slot.isVal, Bool.and_true, Bool.true_and, Bool.and_self, fsem, env0, fill, wMove, Slot.frz, List.getElem?_cons_zero, List.getElem?_cons_succ, List.set_cons_zero, List.set_cons_succ, List.map_cons, List.map_nil, List.cons_append, List.nil_append, List.reduceReplicate, Option.getD_some, List.length_cons, List.length_nil, List.getD_cons_zero, List.getD_cons_succ, Nat.reduceAdd, Nat.reduceSub, Option.map_some, if_true, if_false, ite_true, ite_false, Bool.false_eq_true, reduceIte, Nat.reduceLeDiff, Nat.reduceEqDiff, Int.reduceEq, Int.reduceNe, Int.reduceLT, Int.reduceLE, Int.reduceNeg, Int.reducePow, ne_eq, not_false_eq_true, decide_true, decide_false, true_and, and_true, true_or, or_true, and_self, Bool.not_true, Bool.not_false, reduceCtorEq, fIx_t, dl_get hc, eq_str, q, g1, g4, cast1, cast1l, hz]
    rw [st]
  · have v : lcs (x :: suf) (other.drop c) = max (lcs suf (other.drop c)) (lcs (x :: suf) (other.drop (c + 1))) := by rw [d1, lcs, if_neg (fun e => q e.symm)]
    have st := rowS_step (xs := x :: suf) hc
    rw [v] at st
    simp only [tbI, Int.ofNat_lt, Int.ofNat_le, bind_ok, bind_exc, bind_stuck, sizeLine_eq, fMod_i, fFdiv_i, fMul_i, fMul_i1, fMul_i2, fm0, fm1, fAdd_i, fSub_i, fPow_i, fAdd_l, fAdd_t, fAdd_s, fLt_i, fLe_i, fGt_i, fGe_i, evO, resW, evR, bPrim, bC, bVar, tTru, tBool, tNotB, tAndB, tOrB, bAnd, bOr, bNot, bIf, wIf, evX, bTup, wLst, wPrim, wVal, eFrz, wCall, sOk, sRet, sSet, sIf, sSeq, sDrop, sPar, evW, setAll, Tg.asg, Tg.asgs, mMut, sPutL, bGet, sPutD, wDisp, ePub, bIxL, sPutS, mChk, mInt, D.isStr, D.isInt, D.tru, fLen_l, fLen_t, List.length_map, iVal, itemsD, iRange, plainS, wipeE, backE, wComp, wCompB, List.all_cons, List.all_nil, Slot.isVal, Bool.and_true, Bool.true_and, Bool.and_self, fsem, env0, fill, wMove, Slot.frz, List.getElem?_cons_zero, List.getElem?_cons_succ, List.set_cons_zero, List.set_cons_succ, List.map_cons, List.map_nil, List.cons_append, List.nil_append, List.reduceReplicate, Option.getD_some, List.length_cons, List.length_nil, List.getD_cons_zero, List.getD_cons_succ, Nat.reduceAdd, Nat.reduceSub, Option.map_some, if_true, if_false, ite_true, ite_false, Bool.false_eq_true, reduceIte, Nat.reduceLeDiff, Nat.reduceEqDiff, Int.reduceEq, Int.reduceNe, Int.reduceLT, Int.reduceLE, Int.reduceNeg, Int.reducePow, ne_eq, not_false_eq_true, decide_true, decide_false, true_and, and_true, true_or, or_true, and_self, Bool.not_true, Bool.not_false, reduceCtorEq, fIx_t, dl_get hc, eq_str, q, g2, g3, g4, cast1, fMax_n, hz]
    rw [st]
theorem tb_row {one other suf : List Str} {x : Str} {x5 : Option Slot} (ho : other.length ≤ 60) (S : Sto) : ∃ x5', forL (.nm 5) tbI (rangeD ((other.length : Int) - 1) other.length (-1)) [some (.val (.tup (dl one))), some (.val (.tup (dl other))), some (.own (tabR other suf)), some (.val (.str x)), some (.own [.int 0]), x5] S =
    .ok .next [some (.val (.tup (dl one))), some (.val (.tup (dl other))), some (.own (tabR other suf)), some (.val (.str x)), some (.own (rowD (x :: suf) other)), x5'] S := by
  rw [rangeD_down]
  obtain ⟨e', S', h1, y, rfl, rfl⟩ := forL_rng (t := .nm 5) (m := tbI) (fun j e S' => ∃ y, e = [some (.val (.tup (dl one))), some (.val (.tup (dl other))), some (.own (tabR other suf)), some (.val (.str x)), some (.own (rowS (x :: suf) other (other.length - j))), y] ∧ S' = S) (g := fun i => .int ((other.length - 1 - i : Nat) : Int)) other.length 0 _ S ⟨x5, by rw [Nat.sub_zero, rowS_last], rfl⟩ fun j _ hj e S' hI => by
    obtain ⟨y, rfl, rfl⟩ := hI
    have st := fun ds => tb_step (one := one) (suf := suf) (x := x) (x5 := y) ho (show other.length - 1 - j < other.length by omega) S' ds
    rw [show other.length - 1 - j + 1 = other.length - j by omega] at st
    have e9 : rowS (x :: suf) other (other.length - 1 - j) = rowS (x :: suf) other (other.length - (j + 1)) := by rw [show other.length - 1 - j = other.length - (j + 1) by omega]
    rw [e9] at st
    exact ⟨_, _, st, _, rfl, rfl⟩
  rw [Nat.zero_add, Nat.sub_self, rowS_0] at h1
  exact ⟨y, h1⟩
theorem tb_all {one other : List Str} (ho : other.length ≤ 60) (S : Sto) : ∀ (n : Nat) (pre suf : List Str) (x3 x4 x5 : Option Slot), pre.length = n → pre.length + suf.length ≤ 60 → ∃ x3' x4' x5', forL (.nm 3) tbO (dl pre).reverse [some (.val (.tup (dl one))), some (.val (.tup (dl other))), some (.own (tabR other suf)), x3, x4, x5] S =
    .ok .next [some (.val (.tup (dl one))), some (.val (.tup (dl other))), some (.own (tabR other (pre ++ suf))), x3', x4', x5'] S
  | 0, pre, suf, x3, x4, x5, hn, _ => by
    cases pre with
    | nil => exact ⟨x3, x4, x5, rfl⟩
    | cons _ _ => simp at hn
  | n + 1, pre, suf, x3, x4, x5, hn, hz => by
    have hne : pre ≠ [] := fun e => by subst e; simp at hn
    have e := (List.dropLast_concat_getLast hne).symm
    generalize pre.dropLast = p at e
    generalize pre.getLast hne = x at e
    subst e
    rw [List.length_append, List.length_singleton] at hn hz
    have r3 := range3_ok other.length (by omega)
    obtain ⟨y5, h⟩ := tb_row (one := one) (other := other) (suf := suf) (x := x) (x5 := x5) ho S
    obtain ⟨x3', x4', x5', k⟩ := tb_all (one := one) ho S n p (x :: suf) (some (.val (.str x))) (some (.val (.lst (rowD (x :: suf) other)))) y5 (by omega) (by rw [List.length_cons]; omega)
    refine ⟨x3', x4', x5', ?_⟩
    have e1 : (dl (p ++ [x])).reverse = .str x :: (dl p).reverse := by unfold dl; simp
    have hz2 : 1 + (tabR other suf).length ≤ 16777216 := by rw [tabR_len]; omega
    rw [e1, forL]
    unfold tbI at h
    simp only [tbO, Int.ofNat_lt, Int.ofNat_le, bind_ok, bind_exc, bind_stuck, sizeLine_eq, fMod_i, fFdiv_i, fMul_i, fMul_i1, fMul_i2, fm0, fm1, fAdd_i, fSub_i, fPow_i, fAdd_l, fAdd_t, fAdd_s, fLt_i, fLe_i, fGt_i, fGe_i, evO, resW, evR, bPrim, bC, bVar, tTru, tBool, tNotB, tAndB, tOrB, bAnd, bOr, bNot, bIf, wIf, evX, bTup, wLst, wPrim, wVal, eFrz, wCall, sOk, sRet, sSet, sIf, sSeq, sDrop, sPar, evW, setAll, Tg.asg, Tg.asgs, mMut, sPutL, bGet, sPutD, wDisp, ePub, bIxL, sPutS, mChk, mInt, D.isStr, D.isInt, D.tru, fLen_l, fLen_t, List.length_map, iVal, itemsD, iRange, plainS, wipeE, backE, wComp, wCompB, List.all_cons, List.all_nil, Slot.isVal, Bool.and_true, Bool.true_and, Bool.and_self, fsem, env0, fill, wMove, Slot.frz, List.getElem?_cons_zero, List.getElem?_cons_succ, List.set_cons_zero, List.set_cons_succ, List.map_cons, List.map_nil, List.cons_append, List.nil_append, List.reduceReplicate, Option.getD_some, List.length_cons, List.length_nil, List.getD_cons_zero, List.getD_cons_succ, Nat.reduceAdd, Nat.reduceSub, Option.map_some, if_true, if_false, ite_true, ite_false, Bool.false_eq_true, reduceIte, Nat.reduceLeDiff, Nat.reduceEqDiff, Int.reduceEq, Int.reduceNe, Int.reduceLT, Int.reduceLE, Int.reduceNeg, Int.reducePow, ne_eq, not_false_eq_true, decide_true, decide_false, true_and, and_true, true_or, or_true, and_self, Bool.not_true, Bool.not_false, reduceCtorEq, sFor, dl_length, fSub_i, negF_1, r3]
    rw [h]
    simp only [Int.ofNat_lt, Int.ofNat_le, bind_ok, bind_exc, bind_stuck, sizeLine_eq, fMod_i, fFdiv_i, fMul_i, fMul_i1, fMul_i2, fm0, fm1, fAdd_i, fSub_i, fPow_i, fAdd_l, fAdd_t, fAdd_s, fLt_i, fLe_i, fGt_i, fGe_i, evO, resW, evR, bPrim, bC, bVar, tTru, tBool, tNotB, tAndB, tOrB, bAnd, bOr, bNot, bIf, wIf, evX, bTup, wLst, wPrim, wVal, eFrz, wCall, sOk, sRet, sSet, sIf, sSeq, sDrop, sPar, evW, setAll, Tg.asg, Tg.asgs, mMut, sPutL, bGet, sPutD, wDisp, ePub, bIxL, sPutS, mChk, mInt, D.isStr, D.isInt, D.tru, fLen_l, fLen_t, List.length_map, iVal, itemsD, iRange, plainS, wipeE, backE, wComp, wCompB, List.all_cons, List.all_nil, Slot.isVal, Bool.and_true, Bool.true_and, Bool.and_self, fsem, env0, fill, wMove, Slot.frz, List.getElem?_cons_zero, List.getElem?_cons_succ, List.set_cons_zero, List.set_cons_succ, List.map_cons, List.map_nil, List.cons_append, List.nil_append, List.reduceReplicate, Option.getD_some, List.length_cons, List.length_nil, List.getD_cons_zero, List.getD_cons_succ, Nat.reduceAdd, Nat.reduceSub, Option.map_some, if_true, if_false, ite_true, ite_false, Bool.false_eq_true, reduceIte, Nat.reduceLeDiff, Nat.reduceEqDiff, Int.reduceEq, Int.reduceNe, Int.reduceLT, Int.reduceLE, Int.reduceNeg, Int.reducePow, ne_eq, not_false_eq_true, decide_true, decide_false, true_and, and_true, true_or, or_true, and_self, Bool.not_true, Bool.not_false, reduceCtorEq, hz2]
    rw [List.append_assoc]
    exact k
theorem table_ok {one other : List Str} (h1 : one.length ≤ 60) (ho : other.length ≤ 60) (S : Sto) : F__law_table [.tup (dl one), .tup (dl other)] S = .ok (.own (tabR other one)) [] S := by
  obtain ⟨x3', x4', x5', k⟩ := tb_all (one := one) ho S one.length one [] none none none rfl (by rw [List.length_nil]; omega)
  rw [List.append_nil] at k
  have e0 : rowL (fun _ => 0) other.length = rowD [] other := by
    unfold rowD
    congr 1
    funext j
    rw [lcs_nil']
  have hz := zeros other.length (show other.length ≤ 1000 by omega)
  rw [e0] at hz
  rw [show tabR other [] = [.lst (rowD [] other)] from rfl] at k
  unfold tbO at k
  have er : fRev [.tup (dl one)] = some (.tup (dl one).reverse) := rfl
  simp only [F__law_table, m__law_table, Int.ofNat_lt, Int.ofNat_le, bind_ok, bind_exc, bind_stuck, sizeLine_eq, fMod_i, fFdiv_i, fMul_i, fMul_i1, fMul_i2, fm0, fm1, fAdd_i, fSub_i, fPow_i, fAdd_l, fAdd_t, fAdd_s, fLt_i, fLe_i, fGt_i, fGe_i, evO, resW, evR, bPrim, bC, bVar, tTru, tBool, tNotB, tAndB, tOrB, bAnd, bOr, bNot, bIf, wIf, evX, bTup, wLst, wPrim, wVal, eFrz, wCall, sOk, sRet, sSet, sIf, sSeq, sDrop, sPar, evW, setAll, Tg.asg, Tg.asgs, mMut, sPutL, bGet, sPutD, wDisp, ePub, bIxL, sPutS, mChk, mInt, D.isStr, D.isInt, D.tru, fLen_l, fLen_t, List.length_map, iVal, itemsD, iRange, plainS, wipeE, backE, wComp, wCompB, List.all_cons, List.all_nil, Slot.isVal, Bool.and_true, Bool.true_and, Bool.and_self, fsem, env0, fill, wMove, Slot.frz, List.getElem?_cons_zero, List.getElem?_cons_succ, List.set_cons_zero, List.set_cons_succ, List.map_cons, List.map_nil, List.cons_append, List.nil_append, List.reduceReplicate, Option.getD_some, List.length_cons, List.length_nil, List.getD_cons_zero, List.getD_cons_succ, Nat.reduceAdd, Nat.reduceSub, Option.map_some, if_true, if_false, ite_true, ite_false, Bool.false_eq_true, reduceIte, Nat.reduceLeDiff, Nat.reduceEqDiff, Int.reduceEq, Int.reduceNe, Int.reduceLT, Int.reduceLE, Int.reduceNeg, Int.reducePow, ne_eq, not_false_eq_true, decide_true, decide_false, true_and, and_true, true_or, or_true, and_self, Bool.not_true, Bool.not_false, reduceCtorEq, dl_length, cast1, hz, er, sFor]
  rw [k]
  simp only [Int.ofNat_lt, Int.ofNat_le, bind_ok, bind_exc, bind_stuck, sizeLine_eq, fMod_i, fFdiv_i, fMul_i, fMul_i1, fMul_i2, fm0, fm1, fAdd_i, fSub_i, fPow_i, fAdd_l, fAdd_t, fAdd_s, fLt_i, fLe_i, fGt_i, fGe_i, evO, resW, evR, bPrim, bC, bVar, tTru, tBool, tNotB, tAndB, tOrB, bAnd, bOr, bNot, bIf, wIf, evX, bTup, wLst, wPrim, wVal, eFrz, wCall, sOk, sRet, sSet, sIf, sSeq, sDrop, sPar, evW, setAll, Tg.asg, Tg.asgs, mMut, sPutL, bGet, sPutD, wDisp, ePub, bIxL, sPutS, mChk, mInt, D.isStr, D.isInt, D.tru, fLen_l, fLen_t, List.length_map, iVal, itemsD, iRange, plainS, wipeE, backE, wComp, wCompB, List.all_cons, List.all_nil, Slot.isVal, Bool.and_true, Bool.true_and, Bool.and_self, fsem, env0, fill, wMove, Slot.frz, List.getElem?_cons_zero, List.getElem?_cons_succ, List.set_cons_zero, List.set_cons_succ, List.map_cons, List.map_nil, List.cons_append, List.nil_append, List.reduceReplicate, Option.getD_some, List.length_cons, List.length_nil, List.getD_cons_zero, List.getD_cons_succ, Nat.reduceAdd, Nat.reduceSub, Option.map_some, if_true, if_false, ite_true, ite_false, Bool.false_eq_true, reduceIte, Nat.reduceLeDiff, Nat.reduceEqDiff, Int.reduceEq, Int.reduceNe, Int.reduceLT, Int.reduceLE, Int.reduceNeg, Int.reducePow, ne_eq, not_false_eq_true, decide_true, decide_false, true_and, and_true, true_or, or_true, and_self, Bool.not_true, Bool.not_false, reduceCtorEq]

/-! ### the law's own row -/
def fitT : Tx := tAndB (tBool (bPrim fEq [.ex (bPrim fIx [.sl 1, .sl 9]), .ex (bPrim fIx [.sl 0, .sl 7])])) (tBool (bPrim fEq [.ex (bPrim fAdd [.ex (bC (.int 1)), .ex (bPrim fIx [.ex (bPrim fIx [.sl 2, .ex (bPrim fAdd [.sl 7, .ex (bC (.int 1))])]), .ex (bPrim fAdd [.sl 9, .ex (bC (.int 1))])])]), .ex (bPrim fIx [.ex (bPrim fIx [.sl 2, .sl 4]), .sl 5])]))
def spotB : Sm := sSeq (sSet 8 (wComp (iRange range2 [.sl 5, .ex (bPrim fLen [.sl 1])]) [9] (.nm 9) (tAndB (tBool (bPrim fEq [.ex (bPrim fIx [.sl 1, .sl 9]), .ex (bPrim fIx [.sl 0, .sl 7])])) (tBool (bPrim fEq [.ex (bPrim fAdd [.ex (bC (.int 1)), .ex (bPrim fIx [.ex (bPrim fIx [.sl 2, .ex (bPrim fAdd [.sl 7, .ex (bC (.int 1))])]), .ex (bPrim fAdd [.sl 9, .ex (bC (.int 1))])])]), .ex (bPrim fIx [.ex (bPrim fIx [.sl 2, .sl 4]), .sl 5])]))) (bVar 9))) (sSeq (sSet 6 (wIf (tBool (bPrim fNe [.sl 8, .ex (eFrz (wLst []))])) (wVal (bTup [bVar 7, bPrim fIx [.sl 8, .ex (bC (.int 0))]])) (wVal (bC .non)))) (sSeq (sSet 7 (wPrim fAdd [.sl 7, .ex (bC (.int 1))])) (sOk .next)))
def rowT : Tx := tBool (bPrim fGt [.ex (bPrim fIx [.ex (bPrim fIx [.sl 2, .sl 4]), .sl 5]), .ex (bC (.int 0))])
def lawB : Sm := sSeq (sPar [6, 7] [wVal (bC .non), wVal (bVar 4)]) (sSeq (whileL (tBool (bPrim fIsN [.sl 6, .ex (bC .non)])) (sSeq (sSet 8 (wComp (iRange range2 [.sl 5, .ex (bPrim fLen [.sl 1])]) [9] (.nm 9) (tAndB (tBool (bPrim fEq [.ex (bPrim fIx [.sl 1, .sl 9]), .ex (bPrim fIx [.sl 0, .sl 7])])) (tBool (bPrim fEq [.ex (bPrim fAdd [.ex (bC (.int 1)), .ex (bPrim fIx [.ex (bPrim fIx [.sl 2, .ex (bPrim fAdd [.sl 7, .ex (bC (.int 1))])]), .ex (bPrim fAdd [.sl 9, .ex (bC (.int 1))])])]), .ex (bPrim fIx [.ex (bPrim fIx [.sl 2, .sl 4]), .sl 5])]))) (bVar 9))) (sSeq (sSet 6 (wIf (tBool (bPrim fNe [.sl 8, .ex (eFrz (wLst []))])) (wVal (bTup [bVar 7, bPrim fIx [.sl 8, .ex (bC (.int 0))]])) (wVal (bC .non)))) (sSeq (sSet 7 (wPrim fAdd [.sl 7, .ex (bC (.int 1))])) (sOk .next)))) 100000) (sSeq (sDrop (mMut 3 mfAppend [bVar 6])) (sSeq (sPar [4, 5] [wPrim fAdd [.ex (bPrim fIx [.sl 6, .ex (bC (.int 0))]), .ex (bC (.int 1))], wPrim fAdd [.ex (bPrim fIx [.sl 6, .ex (bC (.int 1))]), .ex (bC (.int 1))]]) (sOk .next))))
def envW (one other : List Str) (found : List D) (i j : Nat) (x6 x7 x8 x9 : Option Slot) : Env := [some (.val (.tup (dl one))), some (.val (.tup (dl other))), some (.own (tabR other one)), some (.own found), some (.val (.int (i : Nat))), some (.val (.int (j : Nat))), x6, x7, x8, x9]
theorem tab_ix {one other : List Str} {i : Nat} (h : i ≤ one.length) : fIx [.lst (tabR other one), .int (i : Nat)] = some (.lst (rowD (one.drop i) other)) := by rw [fIx_l, tabR_get _ _ _ h]
theorem row_ix {one other : List Str} {i j : Nat} (h : j ≤ other.length) : fIx [.lst (rowD (one.drop i) other), .int (j : Nat)] = some (.int ((L one other i j : Nat) : Int)) := by rw [fIx_l, rowD_get h]; rfl
def fitP (one other : List Str) (i j a : Nat) (b : Nat) : Bool := decide (other[b]? = one[a]?) && decide (L one other (a + 1) (b + 1) + 1 = L one other i j)
def fitsL (one other : List Str) (i j a : Nat) : List Nat := (List.range' j (other.length - j)).filter (fitP one other i j a)
def inD (ns : List Nat) : List D := ns.map fun n => .int (n : Nat)
def fitF (one other : List Str) (i j a : Nat) : D → Option D
  | .int b => if fitP one other i j a b.toNat = true then some (.int b) else none
  | _ => none
theorem rangeD_from (j n : Nat) : rangeD (j : Nat) n 1 = inD (List.range' j n) := by
  unfold rangeD inD
  rw [List.range_eq_range', show List.range' j n = (List.range' 0 n).map (j + ·) by rw [List.map_add_range']; simp, List.map_map]
  apply List.map_congr_left
  intro a _
  simp only [Function.comp]
  congr 1
  omega
theorem fitF_ok (one other : List Str) (i j a : Nat) : ∀ ns : List Nat, (inD ns).filterMap (fitF one other i j a) = inD (ns.filter (fitP one other i j a))
  | [] => rfl
  | n :: ns => by
    have ih := fitF_ok one other i j a ns
    show (D.int (n : Nat) :: inD ns).filterMap _ = _
    by_cases h : fitP one other i j a n = true
    · rw [List.filter_cons_of_pos h, List.filterMap_cons_some (show fitF one other i j a (D.int (n : Nat)) = some (.int (n : Nat)) from if_pos h), ih]
      rfl
    · rw [List.filter_cons_of_neg h, List.filterMap_cons_none (show fitF one other i j a (D.int (n : Nat)) = none from if_neg h), ih]
theorem fits_ok {one other : List Str} {i j a : Nat} {found : List D} {x6 x8 : Option Slot} (hi : i ≤ one.length) (hj : j ≤ other.length) (ha : a < one.length) (ho : other.length ≤ 60) (S : Sto) :
    compL [9] (.nm 9) fitT (turn1 (bVar 9)) (rangeD (j : Nat) (other.length - j) 1) [] (envW one other found i j x6 (some (.val (.int (a : Nat)))) x8 none) S = .ok (inD (fitsL one other i j a)) (envW one other found i j x6 (some (.val (.int (a : Nat)))) x8 none) S := by
  have := compF_run (vs := [9]) (t := .nm 9) (tt := fitT) (m := bVar 9) (e0 := envW one other found i j x6 (some (.val (.int (a : Nat)))) x8 none) (S0 := S) (fitF one other i j a) (rangeD (j : Nat) (other.length - j) 1) [] (by rw [rangeD_length, List.length_nil]; omega) fun d hd => by
    rw [rangeD_from] at hd
    unfold inD at hd
    rw [List.mem_map] at hd
    obtain ⟨b, hb, rfl⟩ := hd
    have hb2 : b < other.length := by have := List.mem_range'_1.mp hb; omega
    have o1 : other[b]? = some other[b] := by simp [hb2]
    have o2 : one[a]? = some one[a] := by simp [ha]
    refine ⟨envW one other found i j x6 (some (.val (.int (a : Nat)))) x8 (some (.val (.int (b : Nat)))), rfl, ?_⟩
    by_cases q : other[b] = one[a]
    · by_cases q2 : L one other (a + 1) (b + 1) + 1 = L one other i j
      · rw [show fitF one other i j a (D.int (b : Nat)) = some (.int (b : Nat)) from if_pos (by unfold fitP; simp [o1, o2, q, q2])]
        refine ⟨envW one other found i j x6 (some (.val (.int (a : Nat)))) x8 (some (.val (.int (b : Nat)))), envW one other found i j x6 (some (.val (.int (a : Nat)))) x8 (some (.val (.int (b : Nat)))), ?_, rfl, rfl⟩
        simp only [fitT, envW, Int.ofNat_lt, Int.ofNat_le, bind_ok, bind_exc, bind_stuck, sizeLine_eq, fMod_i, fFdiv_i, fMul_i, fMul_i1, fMul_i2, fm0, fm1, fAdd_i, fSub_i, fPow_i, fAdd_l, fAdd_t, fAdd_s, fLt_i, fLe_i, fGt_i, fGe_i, evO, resW, evR, bPrim, bC, bVar, tTru, tBool, tNotB, tAndB, tOrB, bAnd, bOr, bNot, bIf, wIf, evX, bTup, wLst, wPrim, wVal, eFrz, wCall, sOk, sRet, sSet, sIf, sSeq, sDrop, sPar, evW, setAll, Tg.asg, Tg.asgs, mMut, sPutL, bGet, sPutD, wDisp, ePub, bIxL, sPutS, mChk, mInt, D.isStr, D.isInt, D.tru, fLen_l, fLen_t, List.length_map, iVal, itemsD, iRange, plainS, wipeE, backE, wComp, wCompB, List.all_cons, List.all_nil, Slot.isVal, Bool.and_true, Bool.true_and, Bool.and_self, fsem, env0, fill, wMove, Slot.frz, List.getElem?_cons_zero, List.getElem?_cons_succ, List.set_cons_zero, List.set_cons_succ, List.map_cons, List.map_nil, List.cons_append, List.nil_append, List.reduceReplicate, Option.getD_some, List.length_cons, List.length_nil, List.getD_cons_zero, List.getD_cons_succ, Nat.reduceAdd, Nat.reduceSub, Option.map_some, if_true, if_false, ite_true, ite_false, Bool.false_eq_true, reduceIte, Nat.reduceLeDiff, Nat.reduceEqDiff, Int.reduceEq, Int.reduceNe, Int.reduceLT, Int.reduceLE, Int.reduceNeg, Int.reducePow, ne_eq, not_false_eq_true, decide_true, decide_false, true_and, and_true, true_or, or_true, and_self, Bool.not_true, Bool.not_false, reduceCtorEq, fIx_t, dl_get hb2, dl_get ha, eq_str, q, cast1, tab_ix (show a + 1 ≤ one.length by omega), tab_ix hi, row_ix (one := one) (i := a + 1) (show b + 1 ≤ other.length by omega), row_ix (one := one) (i := i) hj, cast1l, eq_n, q2]
      · rw [show fitF one other i j a (D.int (b : Nat)) = none from if_neg (by unfold fitP; simp [q2])]
        refine ⟨envW one other found i j x6 (some (.val (.int (a : Nat)))) x8 (some (.val (.int (b : Nat)))), ?_, rfl⟩
        simp only [fitT, envW, Int.ofNat_lt, Int.ofNat_le, bind_ok, bind_exc, bind_stuck, sizeLine_eq, fMod_i, fFdiv_i, fMul_i, fMul_i1, fMul_i2, fm0, fm1, fAdd_i, fSub_i, fPow_i, fAdd_l, fAdd_t, fAdd_s, fLt_i, fLe_i, fGt_i, fGe_i, evO, resW, evR, bPrim, bC, bVar, tTru, tBool, tNotB, tAndB, tOrB, bAnd, bOr, bNot, bIf, wIf, evX, bTup, wLst, wPrim, wVal, eFrz, wCall, sOk, sRet, sSet, sIf, sSeq, sDrop, sPar, evW, setAll, Tg.asg, Tg.asgs, mMut, sPutL, bGet, sPutD, wDisp, ePub, bIxL, sPutS, mChk, mInt, D.isStr, D.isInt, D.tru, fLen_l, fLen_t, List.length_map, iVal, itemsD, iRange, plainS, wipeE, backE, wComp, wCompB, List.all_cons, List.all_nil, Slot.isVal, Bool.and_true, Bool.true_and, Bool.and_self, fsem, env0, fill, wMove, Slot.frz, List.getElem?_cons_zero, List.getElem?_cons_succ, List.set_cons_zero, List.set_cons_succ, List.map_cons, List.map_nil, List.cons_append, List.nil_append, List.reduceReplicate, Option.getD_some, List.length_cons, List.length_nil, List.getD_cons_zero, List.getD_cons_succ, Nat.reduceAdd, Nat.reduceSub, Option.map_some, if_true, if_false, ite_true, ite_false, Bool.false_eq_true, reduceIte, Nat.reduceLeDiff, Nat.reduceEqDiff, Int.reduceEq, Int.reduceNe, Int.reduceLT, Int.reduceLE, Int.reduceNeg, Int.reducePow, ne_eq, not_false_eq_true, decide_true, decide_false, true_and, and_true, true_or, or_true, and_self, Bool.not_true, Bool.not_false, reduceCtorEq, fIx_t, dl_get hb2, dl_get ha, eq_str, q, cast1, tab_ix (show a + 1 ≤ one.length by omega), tab_ix hi, row_ix (one := one) (i := a + 1) (show b + 1 ≤ other.length by omega), row_ix (one := one) (i := i) hj, cast1l, eq_n, q2]
    · rw [show fitF one other i j a (D.int (b : Nat)) = none from if_neg (by unfold fitP; simp [o1, o2, q])]
      refine ⟨envW one other found i j x6 (some (.val (.int (a : Nat)))) x8 (some (.val (.int (b : Nat)))), ?_, rfl⟩
      simp only [fitT, envW, Int.ofNat_lt, Int.ofNat_le, bind_ok, bind_exc, bind_stuck, sizeLine_eq, fMod_i, fFdiv_i, fMul_i, fMul_i1, fMul_i2, fm0, fm1, fAdd_i, fSub_i, fPow_i, fAdd_l, fAdd_t, fAdd_s, fLt_i, fLe_i, fGt_i, fGe_i, evO, resW, evR, bPrim, bC, bVar, tTru, tBool, tNotB, tAndB, tOrB, bAnd, bOr, bNot, bIf, wIf, evX, bTup, wLst, wPrim, wVal, eFrz, wCall, sOk, sRet, sSet, sIf, sSeq, sDrop, sPar, evW, setAll, Tg.asg, Tg.asgs, mMut, sPutL, bGet, sPutD, wDisp, ePub, bIxL, sPutS, mChk, mInt, D.isStr, D.isInt, D.tru, fLen_l, fLen_t, List.length_map, iVal, itemsD, iRange, plainS, wipeE, backE, wComp, wCompB, List.all_cons, List.all_nil, Slot.isVal, Bool.and_true, Bool.true_and, Bool.and_self, fsem, env0, fill, wMove, Slot.frz, List.getElem?_cons_zero, List.getElem?_cons_succ, List.set_cons_zero, List.set_cons_succ, List.map_cons, List.map_nil, List.cons_append, List.nil_append, List.reduceReplicate, Option.getD_some, List.length_cons, List.length_nil, List.getD_cons_zero, List.getD_cons_succ, Nat.reduceAdd, Nat.reduceSub, Option.map_some, if_true, if_false, ite_true, ite_false, Bool.false_eq_true, reduceIte, Nat.reduceLeDiff, Nat.reduceEqDiff, Int.reduceEq, Int.reduceNe, Int.reduceLT, Int.reduceLE, Int.reduceNeg, Int.reducePow, ne_eq, not_false_eq_true, decide_true, decide_false, true_and, and_true, true_or, or_true, and_self, Bool.not_true, Bool.not_false, reduceCtorEq, fIx_t, dl_get hb2, dl_get ha, eq_str, q]
  rw [List.nil_append, rangeD_from, fitF_ok] at this
  rw [rangeD_from]
  exact this

theorem fits_none {one other : List Str} {i j a : Nat} (h : fitsL one other i j a = []) (hia : i ≤ a) : ∀ q, Like one other q → Cond one other i j q → q.1 ≠ a := by
  intro q h1 h2 e
  obtain ⟨x, k1, k2⟩ := h1
  have hq := (List.getElem?_eq_some_iff.mp k2).1
  have : q.2 ∈ fitsL one other i j a := by
    unfold fitsL
    rw [List.mem_filter]
    refine ⟨List.mem_range'_1.mpr ⟨h2.2.1, by omega⟩, ?_⟩
    unfold fitP
    rw [← e, k1, k2]
    simp [h2.2.2]
  rw [h] at this
  cases this
theorem fits_some {one other : List Str} {i j a b : Nat} {r : List Nat} (h : fitsL one other i j a = b :: r) (hia : i ≤ a) (ha : a < one.length) (lo : ∀ q, Like one other q → Cond one other i j q → a ≤ q.1) : First one other i j (a, b) := by
  have hs : (fitsL one other i j a).Pairwise (· < ·) := by
    unfold fitsL
    exact List.Pairwise.filter _ List.pairwise_lt_range'
  have hb : b ∈ fitsL one other i j a := by rw [h]; exact List.mem_cons_self
  unfold fitsL at hb
  rw [List.mem_filter] at hb
  have hr := List.mem_range'_1.mp hb.1
  have hp := hb.2
  unfold fitP at hp
  rw [Bool.and_eq_true, decide_eq_true_eq, decide_eq_true_eq] at hp
  refine ⟨⟨one[a], by simp [ha], by rw [hp.1]; simp [ha]⟩, ⟨hia, hr.1, hp.2⟩, fun q h1 h2 h3 => ?_⟩
  rcases h3 with h3 | ⟨e, h3⟩
  · have := lo q h1 h2
    simp only at h3
    omega
  · simp only at e h3
    obtain ⟨x, k1, k2⟩ := h1
    have hq := (List.getElem?_eq_some_iff.mp k2).1
    have m : q.2 ∈ fitsL one other i j a := by
      unfold fitsL
      rw [List.mem_filter]
      refine ⟨List.mem_range'_1.mpr ⟨h2.2.1, by omega⟩, ?_⟩
      unfold fitP
      rw [← e, k1, k2]
      simp [h2.2.2]
    rw [h] at m hs
    rw [List.pairwise_cons] at hs
    rcases List.mem_cons.mp m with z | z
    · omega
    · have := hs.1 _ z
      omega
theorem shp_inD (ns : List Nat) : (D.lst (inD ns)).shp = true := by
  have h : ∀ ns : List Nat, D.dats (inD ns) = true ∧ D.deps (inD ns) = 0 := fun ns => by
    induction ns with
    | nil => exact ⟨rfl, rfl⟩
    | cons n ns ih =>
      refine ⟨?_, ?_⟩
      · show (true && D.dats (inD ns)) = true
        rw [ih.1]; rfl
      · show max 0 (D.deps (inD ns)) = 0
        rw [ih.2]; rfl
  unfold D.shp
  rw [show (D.lst (inD ns)).dat = D.dats (inD ns) from rfl, show (D.lst (inD ns)).dep = D.deps (inD ns) + 1 from rfl, (h ns).1, (h ns).2]
  rfl
theorem ne_nil0 : fNe [.lst (inD []), .lst []] = some (.bl false) := rfl
theorem ne_cons (b : Nat) (r : List Nat) : fNe [.lst (inD (b :: r)), .lst []] = some (.bl true) := by
  show (fEqB (.lst (inD (b :: r))) (.lst [])).map _ = _
  have : fEqB (.lst (inD (b :: r))) (.lst []) = some false := by
    show (if (D.lst (inD (b :: r))).shp = true ∧ (D.lst []).shp = true then some (PyData.eqv (D.lst (inD (b :: r))).py (D.lst []).py) else none) = _
    rw [if_pos ⟨shp_inD _, rfl⟩]
    rfl
  rw [this]
  rfl
theorem isN_non : fIsN [.non, .non] = some (.bl true) := rfl
theorem isN_tup (ds : List D) : fIsN [.tup ds, .non] = some (.bl false) := rfl
theorem inD_0 (b : Nat) (r : List Nat) : (inD (b :: r))[0]? = some (.int (b : Nat)) := rfl
def ptD (p : Nat × Nat) : D := .tup [.int (p.1 : Nat), .int (p.2 : Nat)]
theorem spot_ok {one other : List Str} {i j : Nat} {found : List D} {x8 : Option Slot} (h1 : one.length ≤ 60) (ho : other.length ≤ 60) (hi : i ≤ one.length) (hj : j ≤ other.length) (hL : 0 < L one other i j) (S : Sto) :
    ∃ p x7 x8', First one other i j p ∧ whileL (tBool (bPrim fIsN [.sl 6, .ex (bC .non)])) spotB 100000 (envW one other found i j (some (.val .non)) (some (.val (.int (i : Nat)))) x8 none) S = .ok .next (envW one other found i j (some (.val (ptD p))) x7 x8' none) S := by
  obtain ⟨w, w1, w2⟩ := exists_cond (one := one) (other := other) _ i j (Nat.le_refl _) hL
  have r2 := range2_ok j other.length (by omega) (by omega)
  obtain ⟨e', S', k1, rfl, p, x7, x8', k2, rfl⟩ := whileL_run (t := tBool (bPrim fIsN [.sl 6, .ex (bC .non)])) (m := spotB)
    (fun k e S' => S' = S ∧ ((∃ a x8, i ≤ a ∧ k = 61 - a ∧ e = envW one other found i j (some (.val .non)) (some (.val (.int (a : Nat)))) x8 none ∧ ∀ q, Like one other q → Cond one other i j q → a ≤ q.1) ∨ ∃ p x7 x8, k = 0 ∧ First one other i j p ∧ e = envW one other found i j (some (.val (ptD p))) x7 x8 none))
    (fun e S' => S' = S ∧ ∃ p x7 x8, First one other i j p ∧ e = envW one other found i j (some (.val (ptD p))) x7 x8 none)
    (fun k e S' hI => by
      obtain ⟨rfl, hI⟩ := hI
      rcases hI with ⟨a, x8, hia, rfl, rfl, lo⟩ | ⟨p, x7, x8, rfl, hp, rfl⟩
      · right
        have hw := lo w w1 w2
        obtain ⟨z, z1, _⟩ := w1
        have hwl := (List.getElem?_eq_some_iff.mp z1).1
        have ha : a < one.length := by omega
        have ft := fits_ok (found := found) (x6 := some (.val .non)) (x8 := x8) hi hj ha ho S'
        unfold fitT envW at ft
        cases q : fitsL one other i j a with
        | nil =>
          rw [q] at ft
          refine ⟨envW one other found i j (some (.val .non)) (some (.val (.int (a : Nat)))) x8 none, S', envW one other found i j (some (.val .non)) (some (.val (.int ((a + 1 : Nat) : Int)))) (some (.own (inD []))) none, S', 61 - (a + 1), ?_, ?_, by omega, rfl, .inl ⟨a + 1, _, by omega, rfl, rfl, fun q1 h1 h2 => ?_⟩⟩
          · simp only [envW, Int.ofNat_lt, Int.ofNat_le, bind_ok, bind_exc, bind_stuck, sizeLine_eq, fMod_i, fFdiv_i, fMul_i, fMul_i1, fMul_i2, fm0, fm1, fAdd_i, fSub_i, fPow_i, fAdd_l, fAdd_t, fAdd_s, fLt_i, fLe_i, fGt_i, fGe_i, evO, resW, evR, bPrim, bC, bVar, tTru, tBool, tNotB, tAndB, tOrB, bAnd, bOr, bNot, bIf, wIf, evX, bTup, wLst, wPrim, wVal, eFrz, wCall, sOk, sRet, sSet, sIf, sSeq, sDrop, sPar, evW, setAll, Tg.asg, Tg.asgs, mMut, sPutL, bGet, sPutD, wDisp, ePub, bIxL, sPutS, mChk, mInt, D.isStr, D.isInt, D.tru, fLen_l, fLen_t, List.length_map, iVal, itemsD, iRange, plainS, wipeE, backE, wComp, wCompB, List.all_cons, List.all_nil, Slot.isVal, Bool.and_true, Bool.true_and, Bool.and_self, fsem, env0, fill, wMove, Slot.frz, List.getElem?_cons_zero, List.getElem?_cons_succ, List.set_cons_zero, List.set_cons_succ, List.map_cons, List.map_nil, List.cons_append, List.nil_append, List.reduceReplicate, Option.getD_some, List.length_cons, List.length_nil, List.getD_cons_zero, List.getD_cons_succ, Nat.reduceAdd, Nat.reduceSub, Option.map_some, if_true, if_false, ite_true, ite_false, Bool.false_eq_true, reduceIte, Nat.reduceLeDiff, Nat.reduceEqDiff, Int.reduceEq, Int.reduceNe, Int.reduceLT, Int.reduceLE, Int.reduceNeg, Int.reducePow, ne_eq, not_false_eq_true, decide_true, decide_false, true_and, and_true, true_or, or_true, and_self, Bool.not_true, Bool.not_false, reduceCtorEq, isN_non]
          · simp only [spotB, envW, Int.ofNat_lt, Int.ofNat_le, bind_ok, bind_exc, bind_stuck, sizeLine_eq, fMod_i, fFdiv_i, fMul_i, fMul_i1, fMul_i2, fm0, fm1, fAdd_i, fSub_i, fPow_i, fAdd_l, fAdd_t, fAdd_s, fLt_i, fLe_i, fGt_i, fGe_i, evO, resW, evR, bPrim, bC, bVar, tTru, tBool, tNotB, tAndB, tOrB, bAnd, bOr, bNot, bIf, wIf, evX, bTup, wLst, wPrim, wVal, eFrz, wCall, sOk, sRet, sSet, sIf, sSeq, sDrop, sPar, evW, setAll, Tg.asg, Tg.asgs, mMut, sPutL, bGet, sPutD, wDisp, ePub, bIxL, sPutS, mChk, mInt, D.isStr, D.isInt, D.tru, fLen_l, fLen_t, List.length_map, iVal, itemsD, iRange, plainS, wipeE, backE, wComp, wCompB, List.all_cons, List.all_nil, Slot.isVal, Bool.and_true, Bool.true_and, Bool.and_self, fsem, env0, fill, wMove, Slot.frz, List.getElem?_cons_zero, List.getElem?_cons_succ, List.set_cons_zero, List.set_cons_succ, List.map_cons, List.map_nil, List.cons_append, List.nil_append, List.reduceReplicate, Option.getD_some, List.length_cons, List.length_nil, List.getD_cons_zero, List.getD_cons_succ, Nat.reduceAdd, Nat.reduceSub, Option.map_some, if_true, if_false, ite_true, ite_false, Bool.false_eq_true, reduceIte, Nat.reduceLeDiff, Nat.reduceEqDiff, Int.reduceEq, Int.reduceNe, Int.reduceLT, Int.reduceLE, Int.reduceNeg, Int.reducePow, ne_eq, not_false_eq_true, decide_true, decide_false, true_and, and_true, true_or, or_true, and_self, Bool.not_true, Bool.not_false, reduceCtorEq, dl_length, r2]
            rw [ft]
            simp only [Int.ofNat_lt, Int.ofNat_le, bind_ok, bind_exc, bind_stuck, sizeLine_eq, fMod_i, fFdiv_i, fMul_i, fMul_i1, fMul_i2, fm0, fm1, fAdd_i, fSub_i, fPow_i, fAdd_l, fAdd_t, fAdd_s, fLt_i, fLe_i, fGt_i, fGe_i, evO, resW, evR, bPrim, bC, bVar, tTru, tBool, tNotB, tAndB, tOrB, bAnd, bOr, bNot, bIf, wIf, evX, bTup, wLst, wPrim, wVal, eFrz, wCall, sOk, sRet, sSet, sIf, sSeq, sDrop, sPar, evW, setAll, Tg.asg, Tg.asgs, mMut, sPutL, bGet, sPutD, wDisp, ePub, bIxL, sPutS, mChk, mInt, D.isStr, D.isInt, D.tru, fLen_l, fLen_t, List.length_map, iVal, itemsD, iRange, plainS, wipeE, backE, wComp, wCompB, List.all_cons, List.all_nil, Slot.isVal, Bool.and_true, Bool.true_and, Bool.and_self, fsem, env0, fill, wMove, Slot.frz, List.getElem?_cons_zero, List.getElem?_cons_succ, List.set_cons_zero, List.set_cons_succ, List.map_cons, List.map_nil, List.cons_append, List.nil_append, List.reduceReplicate, Option.getD_some, List.length_cons, List.length_nil, List.getD_cons_zero, List.getD_cons_succ, Nat.reduceAdd, Nat.reduceSub, Option.map_some, if_true, if_false, ite_true, ite_false, Bool.false_eq_true, reduceIte, Nat.reduceLeDiff, Nat.reduceEqDiff, Int.reduceEq, Int.reduceNe, Int.reduceLT, Int.reduceLE, Int.reduceNeg, Int.reducePow, ne_eq, not_false_eq_true, decide_true, decide_false, true_and, and_true, true_or, or_true, and_self, Bool.not_true, Bool.not_false, reduceCtorEq, ne_nil0, cast1]
          · have := lo q1 h1 h2
            have := fits_none q hia q1 h1 h2
            omega
        | cons b r =>
          rw [q] at ft
          have hf := fits_some q hia ha lo
          refine ⟨envW one other found i j (some (.val .non)) (some (.val (.int (a : Nat)))) x8 none, S', envW one other found i j (some (.val (ptD (a, b)))) (some (.val (.int ((a + 1 : Nat) : Int)))) (some (.own (inD (b :: r)))) none, S', 0, ?_, ?_, by omega, rfl, .inr ⟨(a, b), _, _, rfl, hf, rfl⟩⟩
          · simp only [envW, Int.ofNat_lt, Int.ofNat_le, bind_ok, bind_exc, bind_stuck, sizeLine_eq, fMod_i, fFdiv_i, fMul_i, fMul_i1, fMul_i2, fm0, fm1, fAdd_i, fSub_i, fPow_i, fAdd_l, fAdd_t, fAdd_s, fLt_i, fLe_i, fGt_i, fGe_i, evO, resW, evR, bPrim, bC, bVar, tTru, tBool, tNotB, tAndB, tOrB, bAnd, bOr, bNot, bIf, wIf, evX, bTup, wLst, wPrim, wVal, eFrz, wCall, sOk, sRet, sSet, sIf, sSeq, sDrop, sPar, evW, setAll, Tg.asg, Tg.asgs, mMut, sPutL, bGet, sPutD, wDisp, ePub, bIxL, sPutS, mChk, mInt, D.isStr, D.isInt, D.tru, fLen_l, fLen_t, List.length_map, iVal, itemsD, iRange, plainS, wipeE, backE, wComp, wCompB, List.all_cons, List.all_nil, Slot.isVal, Bool.and_true, Bool.true_and, Bool.and_self, fsem, env0, fill, wMove, Slot.frz, List.getElem?_cons_zero, List.getElem?_cons_succ, List.set_cons_zero, List.set_cons_succ, List.map_cons, List.map_nil, List.cons_append, List.nil_append, List.reduceReplicate, Option.getD_some, List.length_cons, List.length_nil, List.getD_cons_zero, List.getD_cons_succ, Nat.reduceAdd, Nat.reduceSub, Option.map_some, if_true, if_false, ite_true, ite_false, Bool.false_eq_true, reduceIte, Nat.reduceLeDiff, Nat.reduceEqDiff, Int.reduceEq, Int.reduceNe, Int.reduceLT, Int.reduceLE, Int.reduceNeg, Int.reducePow, ne_eq, not_false_eq_true, decide_true, decide_false, true_and, and_true, true_or, or_true, and_self, Bool.not_true, Bool.not_false, reduceCtorEq, isN_non]
          · simp only [spotB, envW, Int.ofNat_lt, Int.ofNat_le, bind_ok, bind_exc, bind_stuck, sizeLine_eq, fMod_i, fFdiv_i, fMul_i, fMul_i1, fMul_i2, fm0, fm1, fAdd_i, fSub_i, fPow_i, fAdd_l, fAdd_t, fAdd_s, fLt_i, fLe_i, fGt_i, fGe_i, evO, resW, evR, bPrim, bC, bVar, tTru, tBool, tNotB, tAndB, tOrB, bAnd, bOr, bNot, bIf, wIf, evX, bTup, wLst, wPrim, wVal, eFrz, wCall, sOk, sRet, sSet, sIf, sSeq, sDrop, sPar, evW, setAll, Tg.asg, Tg.asgs, mMut, sPutL, bGet, sPutD, wDisp, ePub, bIxL, sPutS, mChk, mInt, D.isStr, D.isInt, D.tru, fLen_l, fLen_t, List.length_map, iVal, itemsD, iRange, plainS, wipeE, backE, wComp, wCompB, List.all_cons, List.all_nil, Slot.isVal, Bool.and_true, Bool.true_and, Bool.and_self, fsem, env0, fill, wMove, Slot.frz, List.getElem?_cons_zero, List.getElem?_cons_succ, List.set_cons_zero, List.set_cons_succ, List.map_cons, List.map_nil, List.cons_append, List.nil_append, List.reduceReplicate, Option.getD_some, List.length_cons, List.length_nil, List.getD_cons_zero, List.getD_cons_succ, Nat.reduceAdd, Nat.reduceSub, Option.map_some, if_true, if_false, ite_true, ite_false, Bool.false_eq_true, reduceIte, Nat.reduceLeDiff, Nat.reduceEqDiff, Int.reduceEq, Int.reduceNe, Int.reduceLT, Int.reduceLE, Int.reduceNeg, Int.reducePow, ne_eq, not_false_eq_true, decide_true, decide_false, true_and, and_true, true_or, or_true, and_self, Bool.not_true, Bool.not_false, reduceCtorEq, dl_length, r2]
            rw [ft]
            simp only [Int.ofNat_lt, Int.ofNat_le, bind_ok, bind_exc, bind_stuck, sizeLine_eq, fMod_i, fFdiv_i, fMul_i, fMul_i1, fMul_i2, fm0, fm1, fAdd_i, fSub_i, fPow_i, fAdd_l, fAdd_t, fAdd_s, fLt_i, fLe_i, fGt_i, fGe_i, evO, resW, evR, bPrim, bC, bVar, tTru, tBool, tNotB, tAndB, tOrB, bAnd, bOr, bNot, bIf, wIf, evX, bTup, wLst, wPrim, wVal, eFrz, wCall, sOk, sRet, sSet, sIf, sSeq, sDrop, sPar, evW, setAll, Tg.asg, Tg.asgs, mMut, sPutL, bGet, sPutD, wDisp, ePub, bIxL, sPutS, mChk, mInt, D.isStr, D.isInt, D.tru, fLen_l, fLen_t, List.length_map, iVal, itemsD, iRange, plainS, wipeE, backE, wComp, wCompB, List.all_cons, List.all_nil, Slot.isVal, Bool.and_true, Bool.true_and, Bool.and_self, fsem, env0, fill, wMove, Slot.frz, List.getElem?_cons_zero, List.getElem?_cons_succ, List.set_cons_zero, List.set_cons_succ, List.map_cons, List.map_nil, List.cons_append, List.nil_append, List.reduceReplicate, Option.getD_some, List.length_cons, List.length_nil, List.getD_cons_zero, List.getD_cons_succ, Nat.reduceAdd, Nat.reduceSub, Option.map_some, if_true, if_false, ite_true, ite_false, Bool.false_eq_true, reduceIte, Nat.reduceLeDiff, Nat.reduceEqDiff, Int.reduceEq, Int.reduceNe, Int.reduceLT, Int.reduceLE, Int.reduceNeg, Int.reducePow, ne_eq, not_false_eq_true, decide_true, decide_false, true_and, and_true, true_or, or_true, and_self, Bool.not_true, Bool.not_false, reduceCtorEq, ne_cons, cast1, fIx_l0, inD_0, ptD]
      · left
        refine ⟨_, S', ?_, rfl, p, x7, x8, hp, rfl⟩
        simp only [envW, Int.ofNat_lt, Int.ofNat_le, bind_ok, bind_exc, bind_stuck, sizeLine_eq, fMod_i, fFdiv_i, fMul_i, fMul_i1, fMul_i2, fm0, fm1, fAdd_i, fSub_i, fPow_i, fAdd_l, fAdd_t, fAdd_s, fLt_i, fLe_i, fGt_i, fGe_i, evO, resW, evR, bPrim, bC, bVar, tTru, tBool, tNotB, tAndB, tOrB, bAnd, bOr, bNot, bIf, wIf, evX, bTup, wLst, wPrim, wVal, eFrz, wCall, sOk, sRet, sSet, sIf, sSeq, sDrop, sPar, evW, setAll, Tg.asg, Tg.asgs, mMut, sPutL, bGet, sPutD, wDisp, ePub, bIxL, sPutS, mChk, mInt, D.isStr, D.isInt, D.tru, fLen_l, fLen_t, List.length_map, iVal, itemsD, iRange, plainS, wipeE, backE, wComp, wCompB, List.all_cons, List.all_nil, Slot.isVal, Bool.and_true, Bool.true_and, Bool.and_self, fsem, env0, fill, wMove, Slot.frz, List.getElem?_cons_zero, List.getElem?_cons_succ, List.set_cons_zero, List.set_cons_succ, List.map_cons, List.map_nil, List.cons_append, List.nil_append, List.reduceReplicate, Option.getD_some, List.length_cons, List.length_nil, List.getD_cons_zero, List.getD_cons_succ, Nat.reduceAdd, Nat.reduceSub, Option.map_some, if_true, if_false, ite_true, ite_false, Bool.false_eq_true, reduceIte, Nat.reduceLeDiff, Nat.reduceEqDiff, Int.reduceEq, Int.reduceNe, Int.reduceLT, Int.reduceLE, Int.reduceNeg, Int.reducePow, ne_eq, not_false_eq_true, decide_true, decide_false, true_and, and_true, true_or, or_true, and_self, Bool.not_true, Bool.not_false, reduceCtorEq, ptD, isN_tup])
    100000 (61 - i) (envW one other found i j (some (.val .non)) (some (.val (.int (i : Nat)))) x8 none) S ⟨rfl, .inl ⟨i, x8, Nat.le_refl _, rfl, rfl, fun q _ h2 => h2.1⟩⟩ (by omega)
  exact ⟨p, x7, x8', k2, k1⟩

theorem fIx_t0 (a b : D) : fIx [.tup [a, b], .int 0] = some a := rfl
theorem fIx_t1 (a b : D) : fIx [.tup [a, b], .int 1] = some b := rfl
theorem prD_snoc (ps : List (Nat × Nat)) (p : Nat × Nat) : prD ps ++ [ptD p] = prD (ps ++ [p]) := by unfold prD; rw [List.map_append]; rfl
theorem L_le {one other : List Str} {i j : Nat} : L one other i j ≤ one.length := by
  have key : ∀ xs ys : List Str, lcs xs ys ≤ xs.length := fun xs ys => by
    induction xs, ys using lcs.induct with
    | case1 ys => rw [lcs_nil']; exact Nat.zero_le _
    | case2 x xs => rw [lcs_nil]; exact Nat.zero_le _
    | case3 x xs ys ih => rw [lcs, if_pos rfl, List.length_cons]; omega
    | case4 x xs y ys h ih1 ih2 => rw [lcs, if_neg h, List.length_cons] at *; omega
  unfold L
  exact Nat.le_trans (key _ _) (by rw [List.length_drop]; omega)
theorem law_row_ok {one other : List Str} (h1 : one.length ≤ 60) (ho : other.length ≤ 60) (S : Sto) : F__law_row [.tup (dl one), .tup (dl other)] S = .ok (.own (prD (comm one other))) [] S := by
  obtain ⟨e', S', k1, rfl, acc, i, j, x6, x7, x8, k2, rfl⟩ := whileL_run (t := rowT) (m := lawB)
    (fun k e S' => S' = S ∧ ∃ acc i j x6 x7 x8, i ≤ one.length ∧ j ≤ other.length ∧ k = L one other i j ∧ acc.length + k ≤ 60 ∧ (∀ rest, Chain one other i j rest → Chain one other 0 0 (acc ++ rest)) ∧ e = envW one other (prD acc) i j x6 x7 x8 none)
    (fun e S' => S' = S ∧ ∃ acc i j x6 x7 x8, Chain one other 0 0 acc ∧ e = envW one other (prD acc) i j x6 x7 x8 none)
    (fun k e S' hI => by
      obtain ⟨rfl, acc, i, j, x6, x7, x8, hi, hj, rfl, hz, hc, rfl⟩ := hI
      by_cases q : 0 < L one other i j
      · right
        have q0 : (0 : Int) < ((L one other i j : Nat) : Int) := by omega
        obtain ⟨p, x7', x8', hp, hs⟩ := spot_ok (found := prD acc) (x8 := x8) h1 ho hi hj q S'
        have hp2 := hp.2.1.2.2
        obtain ⟨z, z1, z2⟩ := hp.1
        have z3 := (List.getElem?_eq_some_iff.mp z1).1
        have z4 := (List.getElem?_eq_some_iff.mp z2).1
        have hlen : (prD acc).length + 1 ≤ 16777216 := by unfold prD; rw [List.length_map]; omega
        refine ⟨envW one other (prD acc) i j x6 x7 x8 none, S', envW one other (prD (acc ++ [p])) (p.1 + 1) (p.2 + 1) (some (.val (ptD p))) x7' x8' none, S', L one other (p.1 + 1) (p.2 + 1), ?_, ?_, by omega, rfl, acc ++ [p], p.1 + 1, p.2 + 1, _, _, _, by omega, by omega, rfl, by rw [List.length_append, List.length_singleton]; omega, fun rest hr => ?_, rfl⟩
        · simp only [rowT, envW, Int.ofNat_lt, Int.ofNat_le, bind_ok, bind_exc, bind_stuck, sizeLine_eq, fMod_i, fFdiv_i, fMul_i, fMul_i1, fMul_i2, fm0, fm1, fAdd_i, fSub_i, fPow_i, fAdd_l, fAdd_t, fAdd_s, fLt_i, fLe_i, fGt_i, fGe_i, evO, resW, evR, bPrim, bC, bVar, tTru, tBool, tNotB, tAndB, tOrB, bAnd, bOr, bNot, bIf, wIf, evX, bTup, wLst, wPrim, wVal, eFrz, wCall, sOk, sRet, sSet, sIf, sSeq, sDrop, sPar, evW, setAll, Tg.asg, Tg.asgs, mMut, sPutL, bGet, sPutD, wDisp, ePub, bIxL, sPutS, mChk, mInt, D.isStr, D.isInt, D.tru, fLen_l, fLen_t, List.length_map, iVal, itemsD, iRange, plainS, wipeE, backE, wComp, wCompB, List.all_cons, List.all_nil, Slot.isVal, Bool.and_true, Bool.true_and, Bool.and_self, fsem, env0, fill, wMove, Slot.frz, List.getElem?_cons_zero, List.getElem?_cons_succ, List.set_cons_zero, List.set_cons_succ, List.map_cons, List.map_nil, List.cons_append, List.nil_append, List.reduceReplicate, Option.getD_some, List.length_cons, List.length_nil, List.getD_cons_zero, List.getD_cons_succ, Nat.reduceAdd, Nat.reduceSub, Option.map_some, if_true, if_false, ite_true, ite_false, Bool.false_eq_true, reduceIte, Nat.reduceLeDiff, Nat.reduceEqDiff, Int.reduceEq, Int.reduceNe, Int.reduceLT, Int.reduceLE, Int.reduceNeg, Int.reducePow, ne_eq, not_false_eq_true, decide_true, decide_false, true_and, and_true, true_or, or_true, and_self, Bool.not_true, Bool.not_false, reduceCtorEq, tab_ix hi, row_ix (one := one) (i := i) hj, q0]
        · unfold spotB envW wComp at hs
          simp only [lawB, envW, Int.ofNat_lt, Int.ofNat_le, bind_ok, bind_exc, bind_stuck, sizeLine_eq, fMod_i, fFdiv_i, fMul_i, fMul_i1, fMul_i2, fm0, fm1, fAdd_i, fSub_i, fPow_i, fAdd_l, fAdd_t, fAdd_s, fLt_i, fLe_i, fGt_i, fGe_i, evO, resW, evR, bPrim, bC, bVar, tTru, tBool, tNotB, tAndB, tOrB, bAnd, bOr, bNot, bIf, wIf, evX, bTup, wLst, wPrim, wVal, eFrz, wCall, sOk, sRet, sSet, sIf, sSeq, sDrop, sPar, evW, setAll, Tg.asg, Tg.asgs, mMut, sPutL, bGet, sPutD, wDisp, ePub, bIxL, sPutS, mChk, mInt, D.isStr, D.isInt, D.tru, fLen_l, fLen_t, List.length_map, iVal, itemsD, iRange, plainS, wipeE, backE, wComp, wCompB, List.all_cons, List.all_nil, Slot.isVal, Bool.and_true, Bool.true_and, Bool.and_self, fsem, env0, fill, wMove, Slot.frz, List.getElem?_cons_zero, List.getElem?_cons_succ, List.set_cons_zero, List.set_cons_succ, List.map_cons, List.map_nil, List.cons_append, List.nil_append, List.reduceReplicate, Option.getD_some, List.length_cons, List.length_nil, List.getD_cons_zero, List.getD_cons_succ, Nat.reduceAdd, Nat.reduceSub, Option.map_some, if_true, if_false, ite_true, ite_false, Bool.false_eq_true, reduceIte, Nat.reduceLeDiff, Nat.reduceEqDiff, Int.reduceEq, Int.reduceNe, Int.reduceLT, Int.reduceLE, Int.reduceNeg, Int.reducePow, ne_eq, not_false_eq_true, decide_true, decide_false, true_and, and_true, true_or, or_true, and_self, Bool.not_true, Bool.not_false, reduceCtorEq]
          rw [hs]
          simp only [Int.ofNat_lt, Int.ofNat_le, bind_ok, bind_exc, bind_stuck, sizeLine_eq, fMod_i, fFdiv_i, fMul_i, fMul_i1, fMul_i2, fm0, fm1, fAdd_i, fSub_i, fPow_i, fAdd_l, fAdd_t, fAdd_s, fLt_i, fLe_i, fGt_i, fGe_i, evO, resW, evR, bPrim, bC, bVar, tTru, tBool, tNotB, tAndB, tOrB, bAnd, bOr, bNot, bIf, wIf, evX, bTup, wLst, wPrim, wVal, eFrz, wCall, sOk, sRet, sSet, sIf, sSeq, sDrop, sPar, evW, setAll, Tg.asg, Tg.asgs, mMut, sPutL, bGet, sPutD, wDisp, ePub, bIxL, sPutS, mChk, mInt, D.isStr, D.isInt, D.tru, fLen_l, fLen_t, List.length_map, iVal, itemsD, iRange, plainS, wipeE, backE, wComp, wCompB, List.all_cons, List.all_nil, Slot.isVal, Bool.and_true, Bool.true_and, Bool.and_self, fsem, env0, fill, wMove, Slot.frz, List.getElem?_cons_zero, List.getElem?_cons_succ, List.set_cons_zero, List.set_cons_succ, List.map_cons, List.map_nil, List.cons_append, List.nil_append, List.reduceReplicate, Option.getD_some, List.length_cons, List.length_nil, List.getD_cons_zero, List.getD_cons_succ, Nat.reduceAdd, Nat.reduceSub, Option.map_some, if_true, if_false, ite_true, ite_false, Bool.false_eq_true, reduceIte, Nat.reduceLeDiff, Nat.reduceEqDiff, Int.reduceEq, Int.reduceNe, Int.reduceLT, Int.reduceLE, Int.reduceNeg, Int.reducePow, ne_eq, not_false_eq_true, decide_true, decide_false, true_and, and_true, true_or, or_true, and_self, Bool.not_true, Bool.not_false, reduceCtorEq, mfAppend, List.length_append, hlen, ptD, fIx_t0, fIx_t1, cast1]
          rw [← prD_snoc]
          rfl
        · have := hc (p :: rest) (.cons hp hr)
          rw [List.append_assoc]
          exact this
      · left
        have q0 : ¬ (0 : Int) < ((L one other i j : Nat) : Int) := by omega
        refine ⟨envW one other (prD acc) i j x6 x7 x8 none, S', ?_, rfl, acc, i, j, x6, x7, x8, ?_, rfl⟩
        · simp only [rowT, envW, Int.ofNat_lt, Int.ofNat_le, bind_ok, bind_exc, bind_stuck, sizeLine_eq, fMod_i, fFdiv_i, fMul_i, fMul_i1, fMul_i2, fm0, fm1, fAdd_i, fSub_i, fPow_i, fAdd_l, fAdd_t, fAdd_s, fLt_i, fLe_i, fGt_i, fGe_i, evO, resW, evR, bPrim, bC, bVar, tTru, tBool, tNotB, tAndB, tOrB, bAnd, bOr, bNot, bIf, wIf, evX, bTup, wLst, wPrim, wVal, eFrz, wCall, sOk, sRet, sSet, sIf, sSeq, sDrop, sPar, evW, setAll, Tg.asg, Tg.asgs, mMut, sPutL, bGet, sPutD, wDisp, ePub, bIxL, sPutS, mChk, mInt, D.isStr, D.isInt, D.tru, fLen_l, fLen_t, List.length_map, iVal, itemsD, iRange, plainS, wipeE, backE, wComp, wCompB, List.all_cons, List.all_nil, Slot.isVal, Bool.and_true, Bool.true_and, Bool.and_self, fsem, env0, fill, wMove, Slot.frz, List.getElem?_cons_zero, List.getElem?_cons_succ, List.set_cons_zero, List.set_cons_succ, List.map_cons, List.map_nil, List.cons_append, List.nil_append, List.reduceReplicate, Option.getD_some, List.length_cons, List.length_nil, List.getD_cons_zero, List.getD_cons_succ, Nat.reduceAdd, Nat.reduceSub, Option.map_some, if_true, if_false, ite_true, ite_false, Bool.false_eq_true, reduceIte, Nat.reduceLeDiff, Nat.reduceEqDiff, Int.reduceEq, Int.reduceNe, Int.reduceLT, Int.reduceLE, Int.reduceNeg, Int.reducePow, ne_eq, not_false_eq_true, decide_true, decide_false, true_and, and_true, true_or, or_true, and_self, Bool.not_true, Bool.not_false, reduceCtorEq, tab_ix hi, row_ix (one := one) (i := i) hj, q0]
        · have := hc [] (.nil (by omega))
          rw [List.append_nil] at this
          exact this)
    100000 (L one other 0 0) (envW one other (prD []) 0 0 none none none none) S ⟨rfl, [], 0, 0, none, none, none, Nat.zero_le _, Nat.zero_le _, rfl, by have := L_le (one := one) (other := other) (i := 0) (j := 0); simp; omega, fun rest h => h, rfl⟩ (by have := L_le (one := one) (other := other) (i := 0) (j := 0); omega)
  have e := k2.uniq (comm_chain one other)
  subst e
  unfold rowT lawB envW wComp at k1
  have e0 : ((0 : Nat) : Int) = 0 := rfl
  rw [e0, show prD [] = [] from rfl] at k1
  simp only [F__law_row, m__law_row, Int.ofNat_lt, Int.ofNat_le, bind_ok, bind_exc, bind_stuck, sizeLine_eq, fMod_i, fFdiv_i, fMul_i, fMul_i1, fMul_i2, fm0, fm1, fAdd_i, fSub_i, fPow_i, fAdd_l, fAdd_t, fAdd_s, fLt_i, fLe_i, fGt_i, fGe_i, evO, resW, evR, bPrim, bC, bVar, tTru, tBool, tNotB, tAndB, tOrB, bAnd, bOr, bNot, bIf, wIf, evX, bTup, wLst, wPrim, wVal, eFrz, wCall, sOk, sRet, sSet, sIf, sSeq, sDrop, sPar, evW, setAll, Tg.asg, Tg.asgs, mMut, sPutL, bGet, sPutD, wDisp, ePub, bIxL, sPutS, mChk, mInt, D.isStr, D.isInt, D.tru, fLen_l, fLen_t, List.length_map, iVal, itemsD, iRange, plainS, wipeE, backE, wComp, wCompB, List.all_cons, List.all_nil, Slot.isVal, Bool.and_true, Bool.true_and, Bool.and_self, fsem, env0, fill, wMove, Slot.frz, List.getElem?_cons_zero, List.getElem?_cons_succ, List.set_cons_zero, List.set_cons_succ, List.map_cons, List.map_nil, List.cons_append, List.nil_append, List.reduceReplicate, Option.getD_some, List.length_cons, List.length_nil, List.getD_cons_zero, List.getD_cons_succ, Nat.reduceAdd, Nat.reduceSub, Option.map_some, if_true, if_false, ite_true, ite_false, Bool.false_eq_true, reduceIte, Nat.reduceLeDiff, Nat.reduceEqDiff, Int.reduceEq, Int.reduceNe, Int.reduceLT, Int.reduceLE, Int.reduceNeg, Int.reducePow, ne_eq, not_false_eq_true, decide_true, decide_false, true_and, and_true, true_or, or_true, and_self, Bool.not_true, Bool.not_false, reduceCtorEq, table_ok h1 ho]
  rw [k1]
  simp only [Int.ofNat_lt, Int.ofNat_le, bind_ok, bind_exc, bind_stuck, sizeLine_eq, fMod_i, fFdiv_i, fMul_i, fMul_i1, fMul_i2, fm0, fm1, fAdd_i, fSub_i, fPow_i, fAdd_l, fAdd_t, fAdd_s, fLt_i, fLe_i, fGt_i, fGe_i, evO, resW, evR, bPrim, bC, bVar, tTru, tBool, tNotB, tAndB, tOrB, bAnd, bOr, bNot, bIf, wIf, evX, bTup, wLst, wPrim, wVal, eFrz, wCall, sOk, sRet, sSet, sIf, sSeq, sDrop, sPar, evW, setAll, Tg.asg, Tg.asgs, mMut, sPutL, bGet, sPutD, wDisp, ePub, bIxL, sPutS, mChk, mInt, D.isStr, D.isInt, D.tru, fLen_l, fLen_t, List.length_map, iVal, itemsD, iRange, plainS, wipeE, backE, wComp, wCompB, List.all_cons, List.all_nil, Slot.isVal, Bool.and_true, Bool.true_and, Bool.and_self, fsem, env0, fill, wMove, Slot.frz, List.getElem?_cons_zero, List.getElem?_cons_succ, List.set_cons_zero, List.set_cons_succ, List.map_cons, List.map_nil, List.cons_append, List.nil_append, List.reduceReplicate, Option.getD_some, List.length_cons, List.length_nil, List.getD_cons_zero, List.getD_cons_succ, Nat.reduceAdd, Nat.reduceSub, Option.map_some, if_true, if_false, ite_true, ite_false, Bool.false_eq_true, reduceIte, Nat.reduceLeDiff, Nat.reduceEqDiff, Int.reduceEq, Int.reduceNe, Int.reduceLT, Int.reduceLE, Int.reduceNeg, Int.reducePow, ne_eq, not_false_eq_true, decide_true, decide_false, true_and, and_true, true_or, or_true, and_self, Bool.not_true, Bool.not_false, reduceCtorEq]

/-! ### right -/
theorem comm_le {one other : List Str} : (comm one other).length ≤ one.length := by
  rw [(comm_chain one other).len]; exact L_le
theorem comm_mem {one other : List Str} {p : Nat × Nat} (h : p ∈ comm one other) : p.1 < one.length ∧ p.2 < other.length := by
  have : ∀ {i j : Nat} {l : List (Nat × Nat)}, Chain one other i j l → ∀ p ∈ l, Like one other p := by
    intro i j l h
    induction h with
    | nil _ => intro p hp; cases hp
    | cons f _ ih =>
      intro p hp
      rcases List.mem_cons.mp hp with e | e
      · subst e; exact f.1
      · exact ih p e
  obtain ⟨x, h1, h2⟩ := this (comm_chain one other) p h
  exact ⟨(List.getElem?_eq_some_iff.mp h1).1, (List.getElem?_eq_some_iff.mp h2).1⟩
theorem shw_prD {ps : List (Nat × Nat)} (hl : ps.length ≤ 60) (h : ∀ p ∈ ps, p.1 < 100 ∧ p.2 < 100) : Shw 2 1000 (.lst (prD ps)) := by
  have e : ∀ d ∈ prD ps, Shw 1 11 d := by
    intro d hd
    unfold prD at hd
    rw [List.mem_map] at hd
    obtain ⟨p, hp, rfl⟩ := hd
    have := h p hp
    refine (Shw.tup (k := 0) (B := 2) fun d hd => ?_).mono (Nat.le_refl _) (Nat.le_refl _)
    rcases List.mem_cons.mp hd with e | hd
    · subst e; exact Shw.nat this.1
    · rcases List.mem_cons.mp hd with e | hd
      · subst e; exact Shw.nat this.2
      · cases hd
  refine (Shw.lst e).mono (Nat.le_refl _) ?_
  unfold prD
  rw [List.length_map]
  omega
theorem repr_comm {one other : List Str} (h1 : one.length ≤ 60) (ho : other.length ≤ 60) : fRepr [.lst (prD (comm one other))] = some (.str (D.lst (prD (comm one other))).py.shown) :=
  repr_l (shw_prD (Nat.le_trans comm_le h1) fun p hp => by have := comm_mem hp; omega) (by decide) (by decide)
theorem shw_lines {xs : List Str} (h : Lns xs) : Shw 1 50000 (.tup (dl xs)) := by
  refine (Shw.tup (k := 0) (B := 802) fun d hd => ?_).mono (Nat.le_refl _) ?_
  · unfold dl at hd
    rw [List.mem_map] at hd
    obtain ⟨x, hx, rfl⟩ := hd
    have := h.ok x hx
    exact Shw.str (n := 80) this.1 fun c hc => by have := (this.2 c hc).2; omega
  · rw [dl_length]
    have := h.len
    omega
theorem repr_lines {xs ys : List Str} (h1 : Lns xs) (h2 : Lns ys) : fRepr [.lst [.tup (dl xs), .tup (dl ys)]] = some (.str (D.lst [.tup (dl xs), .tup (dl ys)]).py.shown) := by
  have key : Shw 2 200000 (.lst [.tup (dl xs), .tup (dl ys)]) := by
    refine (Shw.lst (k := 1) (B := 50000) fun d hd => ?_).mono (Nat.le_refl _) (by show 2 * 50000 + 2 * 2 + 3 ≤ 200000; omega)
    rcases List.mem_cons.mp hd with e | hd
    · subst e; exact shw_lines h1
    · rcases List.mem_cons.mp hd with e | hd
      · subst e; exact shw_lines h2
      · cases hd
  exact repr_l key (by omega) (by omega)
theorem prD_len (ps : List (Nat × Nat)) : (prD ps).length = ps.length := by simp [prD]
/-! ### what is drawn -/
def sgn : Str := " !\"#$&'()*+,-./0123456789:;<=>?@ABCDEFGHIJKLMNOPQRSTUVWXYZ[\\]^_`abcdefghijklmnopqrstuvwxyz{|}~"
theorem sgn_all : ((List.range 94).all fun n => match sgn.cps.toList[n]? with | some c => decide (32 ≤ c) && decide (c ≤ 126) | none => false) = true := by decide +kernel
theorem sgn_ok {r : Int} (h0 : 0 ≤ r) (h1 : r < 94) : ∃ c, 32 ≤ c ∧ c ≤ 126 ∧ fIx [.str " !\"#$&'()*+,-./0123456789:;<=>?@ABCDEFGHIJKLMNOPQRSTUVWXYZ[\\]^_`abcdefghijklmnopqrstuvwxyz{|}~", .int r] = some (.str ⟨#[c]⟩) := by
  obtain ⟨n, rfl⟩ := Int.eq_ofNat_of_zero_le h0
  have h := List.all_eq_true.mp sgn_all n (List.mem_range.mpr (by omega))
  cases e : sgn.cps.toList[n]? with
  | none => rw [e] at h; cases h
  | some c =>
    rw [e] at h
    simp only [Bool.and_eq_true, decide_eq_true_eq] at h
    refine ⟨c, h.1, h.2, ?_⟩
    show (if sgn.length ≤ sizeLine then (atI sgn.cps.toList (n : Int)).map (fun c => D.str ⟨#[c]⟩) else none) = _
    rw [if_pos (by rw [sizeLine_eq]; decide), atI_n, e]
    rfl
theorem one_sign {c : Nat} (h1 : 32 ≤ c) (h2 : c ≤ 126) (n : Int) (hn : n.toNat ≤ 80) : LineOk (strRep ⟨#[c]⟩ n) := by
  have e := strRep_toList ⟨#[c]⟩ n
  have e2 : (List.replicate n.toNat ([c] : List Nat)).flatten = List.replicate n.toNat c := by
    generalize n.toNat = k
    induction k with
    | zero => rfl
    | succ k ih => rw [List.replicate_succ, List.flatten_cons, ih, List.replicate_succ]; rfl
  have e3 : (strRep ⟨#[c]⟩ n).cps.toList = List.replicate n.toNat c := e.trans e2
  refine ⟨?_, fun d hd => ?_⟩
  · show (strRep ⟨#[c]⟩ n).cps.size ≤ 80
    rw [← Array.length_toList, e3, List.length_replicate]
    exact hn
  · rw [e3] at hd
    have := List.eq_of_mem_replicate hd
    omega
theorem pick_l {ds : List D} {r : Int} (h0 : 0 ≤ r) (h1 : r < ds.length) : ∃ d ∈ ds, fIx [.lst ds, .int r] = some d := by
  obtain ⟨n, rfl⟩ := Int.eq_ofNat_of_zero_le h0
  have hn : n < ds.length := by omega
  exact ⟨ds[n], List.getElem_mem hn, by rw [fIx_l]; simp [hn]⟩
theorem line_ok {t : Nat} {S : Sto} (h : Dr t S) (ht : t < 100000000) : ∃ (x : Str) (S' : Sto), LineOk x ∧ Dr (t + 20) S' ∧ F__law_line [.ref 0] S = .ok (.val (.str x)) [] S' := by
  obtain ⟨way, S1, w0, w1, d1, e1⟩ := next_ok (many := 5) h (by omega) (by omega) (by omega)
  by_cases q0 : way = 0
  · subst q0
    obtain ⟨n, S2, n0, n1, d2, e2⟩ := next_ok (many := 12) d1 (by omega) (by omega) (by omega)
    obtain ⟨k, rfl⟩ := Int.eq_ofNat_of_zero_le n0
    have r1 := range1_ok k (by omega)
    obtain ⟨ys, e', S3, k1, ⟨k2, k3⟩, k4, k5⟩ := compL_run (vs := [3]) (t := .nm 3) (m := bPrim fIx [.sl 1, .ex (eFrz (wCall F__law_next [] ar2 [bVar 0, bC (.int 94)] []))])
      (fun i e S' => e = [some (.val (.ref 0)), some (.val (.str " !\"#$&'()*+,-./0123456789:;<=>?@ABCDEFGHIJKLMNOPQRSTUVWXYZ[\\]^_`abcdefghijklmnopqrstuvwxyz{|}~")), some (.val (.int 0)), none] ∧ Dr (t + 2 + i) S') (fun _ y => ∃ c, 32 ≤ c ∧ c ≤ 126 ∧ y = .str ⟨#[c]⟩) (rangeD 0 k 1) 0 [] [some (.val (.ref 0)), some (.val (.str " !\"#$&'()*+,-./0123456789:;<=>?@ABCDEFGHIJKLMNOPQRSTUVWXYZ[\\]^_`abcdefghijklmnopqrstuvwxyz{|}~")), some (.val (.int 0)), none] S2 (by rw [rangeD_length]; simp; omega) ⟨rfl, d2⟩ fun j d e S' hd hI => by
        obtain ⟨rfl, hD⟩ := hI
        have hj := (rangeD_get hd).1
        obtain ⟨r, S4, r0, r1, d4, e4⟩ := next_ok (many := 94) hD (by omega) (by omega) (by omega)
        obtain ⟨c, c1, c2, ec⟩ := sgn_ok r0 r1
        refine ⟨_, .str ⟨#[c]⟩, [some (.val (.ref 0)), some (.val (.str " !\"#$&'()*+,-./0123456789:;<=>?@ABCDEFGHIJKLMNOPQRSTUVWXYZ[\\]^_`abcdefghijklmnopqrstuvwxyz{|}~")), some (.val (.int 0)), some (.val d)], S4, rfl, ?_, ⟨rfl, d4⟩, c, c1, c2, rfl⟩
        simp only [Int.ofNat_lt, Int.ofNat_le, bind_ok, bind_exc, bind_stuck, sizeLine_eq, fMod_i, fFdiv_i, fMul_i, fMul_i1, fMul_i2, fm0, fm1, fAdd_i, fSub_i, fPow_i, fAdd_l, fAdd_t, fAdd_s, fLt_i, fLe_i, fGt_i, fGe_i, evO, resW, evR, bPrim, bC, bVar, tTru, tBool, tNotB, tAndB, tOrB, bAnd, bOr, bNot, bIf, wIf, evX, bTup, wLst, wPrim, wVal, eFrz, wCall, sOk, sRet, sSet, sIf, sSeq, sDrop, sPar, evW, setAll, Tg.asg, Tg.asgs, mMut, sPutL, bGet, sPutD, wDisp, ePub, bIxL, sPutS, mChk, mInt, D.isStr, D.isInt, D.tru, fLen_l, fLen_t, List.length_map, iVal, itemsD, iRange, plainS, wipeE, backE, wComp, wCompB, List.all_cons, List.all_nil, Slot.isVal, Bool.and_true, Bool.true_and, Bool.and_self, fsem, env0, fill, wMove, Slot.frz, List.getElem?_cons_zero, List.getElem?_cons_succ, List.set_cons_zero, List.set_cons_succ, List.map_cons, List.map_nil, List.cons_append, List.nil_append, List.reduceReplicate, Option.getD_some, List.length_cons, List.length_nil, List.getD_cons_zero, List.getD_cons_succ, Nat.reduceAdd, Nat.reduceSub, Option.map_some, if_true, if_false, ite_true, ite_false, Bool.false_eq_true, reduceIte, Nat.reduceLeDiff, Nat.reduceEqDiff, Int.reduceEq, Int.reduceNe, Int.reduceLT, Int.reduceLE, Int.reduceNeg, Int.reducePow, ne_eq, not_false_eq_true, decide_true, decide_false, true_and, and_true, true_or, or_true, and_self, Bool.not_true, Bool.not_false, reduceCtorEq, e4, ec]
    subst k2
    obtain ⟨ss, s1, s2⟩ := strsD_of ys fun j y hy => by obtain ⟨c, _, _, rfl⟩ := k5 j y hy; exact ⟨_, rfl⟩
    have hss : ∀ s ∈ ss, ∃ c, 32 ≤ c ∧ c ≤ 126 ∧ s = ⟨#[c]⟩ := fun s hs => by
      obtain ⟨j, hj⟩ := List.getElem?_of_mem hs
      obtain ⟨c, c1, c2, ec⟩ := k5 j (.str s) (by rw [s2, List.getElem?_map, hj]; rfl)
      cases ec
      exact ⟨c, c1, c2, rfl⟩
    have hlen : ss.length = k := by
      have := congrArg List.length s2
      rw [List.length_map, k4, rangeD_length] at this
      exact this.symm
    have hsum : ∀ l : List Str, (∀ s ∈ l, ∃ c, 32 ≤ c ∧ c ≤ 126 ∧ s = ⟨#[c]⟩) → (l.map (·.length)).sum = l.length ∧ ((l.map fun p => p.cps.toList).flatten).length = l.length ∧ ∀ c ∈ (l.map fun p => p.cps.toList).flatten, 32 ≤ c ∧ c ≤ 126 := fun l => by
      induction l with
      | nil => exact fun _ => ⟨rfl, rfl, fun c hc => by cases hc⟩
      | cons s l ih =>
        intro hl
        obtain ⟨c, c1, c2, rfl⟩ := hl s List.mem_cons_self
        obtain ⟨i1, i2, i3⟩ := ih fun s hs => hl s (List.mem_cons_of_mem _ hs)
        refine ⟨?_, ?_, fun d hd => ?_⟩
        · rw [List.map_cons, List.sum_cons, i1]
          show 1 + l.length = l.length + 1
          omega
        · rw [List.map_cons, List.flatten_cons, List.length_append, i2]
          show 1 + l.length = l.length + 1
          omega
        · rw [List.map_cons, List.flatten_cons, List.mem_append] at hd
          rcases hd with hd | hd
          · have : d = c := by simpa using hd
            subst this; exact ⟨c1, c2⟩
          · exact i3 d hd
    obtain ⟨u1, u2, u3⟩ := hsum ss hss
    have hj : fJoin [.str "", .lst ys] = some (.str (Txt.join "" ss)) := by
      show joinD "" ys = _
      unfold joinD
      rw [s1]
      show (if (ss.map (·.length)).sum + ss.length * (0 : Nat) ≤ 16777216 then _ else _) = _
      rw [if_pos (by rw [u1]; omega)]
    refine ⟨Txt.join "" ss, S3, ⟨?_, ?_⟩, k3.mono (by rw [rangeD_length]; omega), ?_⟩
    · show (Txt.join "" ss).cps.size ≤ 80
      rw [← Array.length_toList, join_cps, u2]
      omega
    · rw [join_cps]; exact u3
    · have z0 : fEq [.int 0, .int 0] = some (.bl true) := rfl
      simp only [F__law_line, m__law_line, Int.ofNat_lt, Int.ofNat_le, bind_ok, bind_exc, bind_stuck, sizeLine_eq, fMod_i, fFdiv_i, fMul_i, fMul_i1, fMul_i2, fm0, fm1, fAdd_i, fSub_i, fPow_i, fAdd_l, fAdd_t, fAdd_s, fLt_i, fLe_i, fGt_i, fGe_i, evO, resW, evR, bPrim, bC, bVar, tTru, tBool, tNotB, tAndB, tOrB, bAnd, bOr, bNot, bIf, wIf, evX, bTup, wLst, wPrim, wVal, eFrz, wCall, sOk, sRet, sSet, sIf, sSeq, sDrop, sPar, evW, setAll, Tg.asg, Tg.asgs, mMut, sPutL, bGet, sPutD, wDisp, ePub, bIxL, sPutS, mChk, mInt, D.isStr, D.isInt, D.tru, fLen_l, fLen_t, List.length_map, iVal, itemsD, iRange, plainS, wipeE, backE, wComp, wCompB, List.all_cons, List.all_nil, Slot.isVal, Bool.and_true, Bool.true_and, Bool.and_self, fsem, env0, fill, wMove, Slot.frz, List.getElem?_cons_zero, List.getElem?_cons_succ, List.set_cons_zero, List.set_cons_succ, List.map_cons, List.map_nil, List.cons_append, List.nil_append, List.reduceReplicate, Option.getD_some, List.length_cons, List.length_nil, List.getD_cons_zero, List.getD_cons_succ, Nat.reduceAdd, Nat.reduceSub, Option.map_some, if_true, if_false, ite_true, ite_false, Bool.false_eq_true, reduceIte, Nat.reduceLeDiff, Nat.reduceEqDiff, Int.reduceEq, Int.reduceNe, Int.reduceLT, Int.reduceLE, Int.reduceNeg, Int.reducePow, ne_eq, not_false_eq_true, decide_true, decide_false, true_and, and_true, true_or, or_true, and_self, Bool.not_true, Bool.not_false, reduceCtorEq, e1, z0, e2, r1]
      rw [k1]
      simp only [Int.ofNat_lt, Int.ofNat_le, bind_ok, bind_exc, bind_stuck, sizeLine_eq, fMod_i, fFdiv_i, fMul_i, fMul_i1, fMul_i2, fm0, fm1, fAdd_i, fSub_i, fPow_i, fAdd_l, fAdd_t, fAdd_s, fLt_i, fLe_i, fGt_i, fGe_i, evO, resW, evR, bPrim, bC, bVar, tTru, tBool, tNotB, tAndB, tOrB, bAnd, bOr, bNot, bIf, wIf, evX, bTup, wLst, wPrim, wVal, eFrz, wCall, sOk, sRet, sSet, sIf, sSeq, sDrop, sPar, evW, setAll, Tg.asg, Tg.asgs, mMut, sPutL, bGet, sPutD, wDisp, ePub, bIxL, sPutS, mChk, mInt, D.isStr, D.isInt, D.tru, fLen_l, fLen_t, List.length_map, iVal, itemsD, iRange, plainS, wipeE, backE, wComp, wCompB, List.all_cons, List.all_nil, Slot.isVal, Bool.and_true, Bool.true_and, Bool.and_self, fsem, env0, fill, wMove, Slot.frz, List.getElem?_cons_zero, List.getElem?_cons_succ, List.set_cons_zero, List.set_cons_succ, List.map_cons, List.map_nil, List.cons_append, List.nil_append, List.reduceReplicate, Option.getD_some, List.length_cons, List.length_nil, List.getD_cons_zero, List.getD_cons_succ, Nat.reduceAdd, Nat.reduceSub, Option.map_some, if_true, if_false, ite_true, ite_false, Bool.false_eq_true, reduceIte, Nat.reduceLeDiff, Nat.reduceEqDiff, Int.reduceEq, Int.reduceNe, Int.reduceLT, Int.reduceLE, Int.reduceNeg, Int.reducePow, ne_eq, not_false_eq_true, decide_true, decide_false, true_and, and_true, true_or, or_true, and_self, Bool.not_true, Bool.not_false, reduceCtorEq, List.nil_append, hj]
  · have z0 : fEq [.int way, .int 0] = some (.bl false) := by rw [eq_i, decide_eq_false q0]
    by_cases q1 : way = 1
    · subst q1
      have z1 : fEq [.int 1, .int 1] = some (.bl true) := rfl
      obtain ⟨r, S2, r0, r1, d2, e2⟩ := next_ok (many := 94) d1 (by omega) (by omega) (by omega)
      obtain ⟨n, S3, n0, n1, d3, e3⟩ := next_ok (many := 3) d2 (by omega) (by omega) (by omega)
      obtain ⟨c, c1, c2, ec⟩ := sgn_ok r0 r1
      obtain ⟨d, hd, ed⟩ := pick_l (ds := [.int 80, .int 79, .int 1]) n0 n1
      obtain ⟨m, m0, m1, rfl⟩ : ∃ m : Int, 0 ≤ m ∧ m ≤ 80 ∧ d = .int m := by
        rcases List.mem_cons.mp hd with e | hd
        · exact ⟨80, by omega, by omega, e⟩
        · rcases List.mem_cons.mp hd with e | hd
          · exact ⟨79, by omega, by omega, e⟩
          · rcases List.mem_cons.mp hd with e | hd
            · exact ⟨1, by omega, by omega, e⟩
            · cases hd
      have em : fMul [.str ⟨#[c]⟩, .int m] = some (.str (strRep ⟨#[c]⟩ m)) := by
        refine if_pos ⟨smI_iff ⟨by omega, by omega⟩, ?_⟩
        rw [sizeLine_eq]
        show 1 * m.toNat ≤ 16777216
        omega
      refine ⟨strRep ⟨#[c]⟩ m, S3, one_sign c1 c2 m (by omega), d3.mono (by omega), ?_⟩
      simp only [F__law_line, m__law_line, Int.ofNat_lt, Int.ofNat_le, bind_ok, bind_exc, bind_stuck, sizeLine_eq, fMod_i, fFdiv_i, fMul_i, fMul_i1, fMul_i2, fm0, fm1, fAdd_i, fSub_i, fPow_i, fAdd_l, fAdd_t, fAdd_s, fLt_i, fLe_i, fGt_i, fGe_i, evO, resW, evR, bPrim, bC, bVar, tTru, tBool, tNotB, tAndB, tOrB, bAnd, bOr, bNot, bIf, wIf, evX, bTup, wLst, wPrim, wVal, eFrz, wCall, sOk, sRet, sSet, sIf, sSeq, sDrop, sPar, evW, setAll, Tg.asg, Tg.asgs, mMut, sPutL, bGet, sPutD, wDisp, ePub, bIxL, sPutS, mChk, mInt, D.isStr, D.isInt, D.tru, fLen_l, fLen_t, List.length_map, iVal, itemsD, iRange, plainS, wipeE, backE, wComp, wCompB, List.all_cons, List.all_nil, Slot.isVal, Bool.and_true, Bool.true_and, Bool.and_self, fsem, env0, fill, wMove, Slot.frz, List.getElem?_cons_zero, List.getElem?_cons_succ, List.set_cons_zero, List.set_cons_succ, List.map_cons, List.map_nil, List.cons_append, List.nil_append, List.reduceReplicate, Option.getD_some, List.length_cons, List.length_nil, List.getD_cons_zero, List.getD_cons_succ, Nat.reduceAdd, Nat.reduceSub, Option.map_some, if_true, if_false, ite_true, ite_false, Bool.false_eq_true, reduceIte, Nat.reduceLeDiff, Nat.reduceEqDiff, Int.reduceEq, Int.reduceNe, Int.reduceLT, Int.reduceLE, Int.reduceNeg, Int.reducePow, ne_eq, not_false_eq_true, decide_true, decide_false, true_and, and_true, true_or, or_true, and_self, Bool.not_true, Bool.not_false, reduceCtorEq, e1, z0, z1, e2, ec, e3, ed, em]
    · have z1 : fEq [.int way, .int 1] = some (.bl false) := by rw [eq_i, decide_eq_false q1]
      obtain ⟨n, S3, n0, n1, d3, e3⟩ := next_ok (many := 10) d1 (by omega) (by omega) (by omega)
      obtain ⟨d, hd, ed⟩ := pick_l (ds := [.str "", .str " ", .str "a", .str "aa", .str "b", .str "mine", .str "stay", .str "old", .str "/", .str "0"]) n0 n1
      obtain ⟨x, hx, rfl⟩ : ∃ x, LineOk x ∧ d = .str x := by
        have key : ∀ l : List Str, (∀ x ∈ l, LineOk x) → ∀ d ∈ l.map D.str, ∃ x, LineOk x ∧ d = .str x := fun l hl d hd => by
          obtain ⟨x, hx, e⟩ := List.mem_map.mp hd
          exact ⟨x, hl x hx, e.symm⟩
        refine key ["", " ", "a", "aa", "b", "mine", "stay", "old", "/", "0"] (fun x hx => ?_) d hd
        have all : ((["", " ", "a", "aa", "b", "mine", "stay", "old", "/", "0"] : List Str).all fun x => decide (x.length ≤ 80) && x.cps.toList.all fun c => decide (32 ≤ c) && decide (c ≤ 126)) = true := by decide +kernel
        have := List.all_eq_true.mp all x hx
        simp only [Bool.and_eq_true, decide_eq_true_eq, List.all_eq_true] at this
        exact this
      refine ⟨x, S3, hx, d3.mono (by omega), ?_⟩
      simp only [F__law_line, m__law_line, Int.ofNat_lt, Int.ofNat_le, bind_ok, bind_exc, bind_stuck, sizeLine_eq, fMod_i, fFdiv_i, fMul_i, fMul_i1, fMul_i2, fm0, fm1, fAdd_i, fSub_i, fPow_i, fAdd_l, fAdd_t, fAdd_s, fLt_i, fLe_i, fGt_i, fGe_i, evO, resW, evR, bPrim, bC, bVar, tTru, tBool, tNotB, tAndB, tOrB, bAnd, bOr, bNot, bIf, wIf, evX, bTup, wLst, wPrim, wVal, eFrz, wCall, sOk, sRet, sSet, sIf, sSeq, sDrop, sPar, evW, setAll, Tg.asg, Tg.asgs, mMut, sPutL, bGet, sPutD, wDisp, ePub, bIxL, sPutS, mChk, mInt, D.isStr, D.isInt, D.tru, fLen_l, fLen_t, List.length_map, iVal, itemsD, iRange, plainS, wipeE, backE, wComp, wCompB, List.all_cons, List.all_nil, Slot.isVal, Bool.and_true, Bool.true_and, Bool.and_self, fsem, env0, fill, wMove, Slot.frz, List.getElem?_cons_zero, List.getElem?_cons_succ, List.set_cons_zero, List.set_cons_succ, List.map_cons, List.map_nil, List.cons_append, List.nil_append, List.reduceReplicate, Option.getD_some, List.length_cons, List.length_nil, List.getD_cons_zero, List.getD_cons_succ, Nat.reduceAdd, Nat.reduceSub, Option.map_some, if_true, if_false, ite_true, ite_false, Bool.false_eq_true, reduceIte, Nat.reduceLeDiff, Nat.reduceEqDiff, Int.reduceEq, Int.reduceNe, Int.reduceLT, Int.reduceLE, Int.reduceNeg, Int.reducePow, ne_eq, not_false_eq_true, decide_true, decide_false, true_and, and_true, true_or, or_true, and_self, Bool.not_true, Bool.not_false, reduceCtorEq, e1, z0, z1, e3, ed]

theorem dl_of : ∀ (ys : List D) (P : Str → Prop), (∀ (j : Nat) (y : D), ys[j]? = some y → ∃ x, P x ∧ y = .str x) → ∃ xs, ys = dl xs ∧ ∀ x ∈ xs, P x
  | [], P, _ => ⟨[], rfl, fun x hx => by cases hx⟩
  | y :: ys, P, h => by
    obtain ⟨x, hx, rfl⟩ := h 0 y rfl
    obtain ⟨xs, rfl, h2⟩ := dl_of ys P fun j z q => h (j + 1) z (by simpa using q)
    exact ⟨x :: xs, rfl, fun z hz => by
      rcases List.mem_cons.mp hz with e | e
      · subst e; exact hx
      · exact h2 z e⟩
/-- lines to draw from -/
structure Pool (pool : List Str) : Prop where
  ne : pool ≠ []
  len : pool.length ≤ 8
  ok : ∀ x ∈ pool, LineOk x
theorem pick_ok {pool : List Str} (hp : Pool pool) {r : Int} (h0 : 0 ≤ r) (h1 : r < pool.length) : ∃ x, LineOk x ∧ fIx [.lst (dl pool), .int r] = some (.str x) := by
  obtain ⟨d, hd, ed⟩ := pick_l (ds := dl pool) h0 (by rw [dl_length]; exact h1)
  unfold dl at hd
  obtain ⟨x, hx, rfl⟩ := List.mem_map.mp hd
  exact ⟨x, hp.ok x hx, ed⟩
theorem pool_pos {pool : List Str} (hp : Pool pool) : (1 : Int) ≤ (pool.length : Int) ∧ (pool.length : Int) ≤ 8 := by
  have := hp.len
  have h2 : pool.length ≠ 0 := fun e => hp.ne (List.eq_nil_of_length_eq_zero e)
  omega
theorem lines_ok {t : Nat} {S : Sto} {pool : List Str} {most : Nat} (h : Dr t S) (ht : t < 100000000) (hp : Pool pool) (hm : most ≤ 14) : ∃ (xs : List Str) (S' : Sto), (∀ x ∈ xs, LineOk x) ∧ xs.length ≤ most ∧ Dr (t + 20) S' ∧ F__law_lines [.ref 0, .lst (dl pool), .int (most : Nat)] S = .ok (.val (.tup (dl xs))) [] S' := by
  obtain ⟨n, S2, n0, n1, d2, e2⟩ := next_ok (many := ((most + 1 : Nat) : Int)) h (by omega) (by omega) (by omega)
  obtain ⟨k, rfl⟩ := Int.eq_ofNat_of_zero_le n0
  have r1 := range1_ok k (by omega)
  obtain ⟨p1, p2⟩ := pool_pos hp
  obtain ⟨ys, e', S3, k1, ⟨k2, k3⟩, k4, k5⟩ := compL_run (vs := [3]) (t := .nm 3) (m := bPrim fIx [.sl 1, .ex (eFrz (wCall F__law_next [] ar2 [bVar 0, bPrim fLen [.sl 1]] []))])
    (fun i e S' => e = [some (.val (.ref 0)), some (.val (.lst (dl pool))), some (.val (.int (most : Nat))), none] ∧ Dr (t + 1 + i) S') (fun _ y => ∃ x, LineOk x ∧ y = .str x) (rangeD 0 k 1) 0 [] [some (.val (.ref 0)), some (.val (.lst (dl pool))), some (.val (.int (most : Nat))), none] S2 (by rw [rangeD_length]; simp; omega) ⟨rfl, d2⟩ fun j d e S' hd hI => by
      obtain ⟨rfl, hD⟩ := hI
      have hj := (rangeD_get hd).1
      obtain ⟨r, S4, r0, r1, d4, e4⟩ := next_ok (many := (pool.length : Int)) hD (by omega) p1 (by omega)
      obtain ⟨x, hx, ex⟩ := pick_ok hp r0 r1
      refine ⟨_, .str x, [some (.val (.ref 0)), some (.val (.lst (dl pool))), some (.val (.int (most : Nat))), some (.val d)], S4, rfl, ?_, ⟨rfl, d4⟩, x, hx, rfl⟩
      simp only [Int.ofNat_lt, Int.ofNat_le, bind_ok, bind_exc, bind_stuck, sizeLine_eq, fMod_i, fFdiv_i, fMul_i, fMul_i1, fMul_i2, fm0, fm1, fAdd_i, fSub_i, fPow_i, fAdd_l, fAdd_t, fAdd_s, fLt_i, fLe_i, fGt_i, fGe_i, evO, resW, evR, bPrim, bC, bVar, tTru, tBool, tNotB, tAndB, tOrB, bAnd, bOr, bNot, bIf, wIf, evX, bTup, wLst, wPrim, wVal, eFrz, wCall, sOk, sRet, sSet, sIf, sSeq, sDrop, sPar, evW, setAll, Tg.asg, Tg.asgs, mMut, sPutL, bGet, sPutD, wDisp, ePub, bIxL, sPutS, mChk, mInt, D.isStr, D.isInt, D.tru, fLen_l, fLen_t, List.length_map, iVal, itemsD, iRange, plainS, wipeE, backE, wComp, wCompB, List.all_cons, List.all_nil, Slot.isVal, Bool.and_true, Bool.true_and, Bool.and_self, fsem, env0, fill, wMove, Slot.frz, List.getElem?_cons_zero, List.getElem?_cons_succ, List.set_cons_zero, List.set_cons_succ, List.map_cons, List.map_nil, List.cons_append, List.nil_append, List.reduceReplicate, Option.getD_some, List.length_cons, List.length_nil, List.getD_cons_zero, List.getD_cons_succ, Nat.reduceAdd, Nat.reduceSub, Option.map_some, if_true, if_false, ite_true, ite_false, Bool.false_eq_true, reduceIte, Nat.reduceLeDiff, Nat.reduceEqDiff, Int.reduceEq, Int.reduceNe, Int.reduceLT, Int.reduceLE, Int.reduceNeg, Int.reducePow, ne_eq, not_false_eq_true, decide_true, decide_false, true_and, and_true, true_or, or_true, and_self, Bool.not_true, Bool.not_false, reduceCtorEq, dl_length, e4, ex]
  subst k2
  obtain ⟨xs, rfl, hx⟩ := dl_of ys LineOk fun j y hy => k5 j y hy
  rw [dl_length, rangeD_length] at k4
  refine ⟨xs, S3, hx, by omega, k3.mono (by rw [rangeD_length]; omega), ?_⟩
  have ft : ∀ ds, fTuple [.lst ds] = some (.tup ds) := fun _ => rfl
  simp only [F__law_lines, m__law_lines, Int.ofNat_lt, Int.ofNat_le, bind_ok, bind_exc, bind_stuck, sizeLine_eq, fMod_i, fFdiv_i, fMul_i, fMul_i1, fMul_i2, fm0, fm1, fAdd_i, fSub_i, fPow_i, fAdd_l, fAdd_t, fAdd_s, fLt_i, fLe_i, fGt_i, fGe_i, evO, resW, evR, bPrim, bC, bVar, tTru, tBool, tNotB, tAndB, tOrB, bAnd, bOr, bNot, bIf, wIf, evX, bTup, wLst, wPrim, wVal, eFrz, wCall, sOk, sRet, sSet, sIf, sSeq, sDrop, sPar, evW, setAll, Tg.asg, Tg.asgs, mMut, sPutL, bGet, sPutD, wDisp, ePub, bIxL, sPutS, mChk, mInt, D.isStr, D.isInt, D.tru, fLen_l, fLen_t, List.length_map, iVal, itemsD, iRange, plainS, wipeE, backE, wComp, wCompB, List.all_cons, List.all_nil, Slot.isVal, Bool.and_true, Bool.true_and, Bool.and_self, fsem, env0, fill, wMove, Slot.frz, List.getElem?_cons_zero, List.getElem?_cons_succ, List.set_cons_zero, List.set_cons_succ, List.map_cons, List.map_nil, List.cons_append, List.nil_append, List.reduceReplicate, Option.getD_some, List.length_cons, List.length_nil, List.getD_cons_zero, List.getD_cons_succ, Nat.reduceAdd, Nat.reduceSub, Option.map_some, if_true, if_false, ite_true, ite_false, Bool.false_eq_true, reduceIte, Nat.reduceLeDiff, Nat.reduceEqDiff, Int.reduceEq, Int.reduceNe, Int.reduceLT, Int.reduceLE, Int.reduceNeg, Int.reducePow, ne_eq, not_false_eq_true, decide_true, decide_false, true_and, and_true, true_or, or_true, and_self, Bool.not_true, Bool.not_false, reduceCtorEq, cast1, e2, r1]
  rw [k1]
  simp only [Int.ofNat_lt, Int.ofNat_le, bind_ok, bind_exc, bind_stuck, sizeLine_eq, fMod_i, fFdiv_i, fMul_i, fMul_i1, fMul_i2, fm0, fm1, fAdd_i, fSub_i, fPow_i, fAdd_l, fAdd_t, fAdd_s, fLt_i, fLe_i, fGt_i, fGe_i, evO, resW, evR, bPrim, bC, bVar, tTru, tBool, tNotB, tAndB, tOrB, bAnd, bOr, bNot, bIf, wIf, evX, bTup, wLst, wPrim, wVal, eFrz, wCall, sOk, sRet, sSet, sIf, sSeq, sDrop, sPar, evW, setAll, Tg.asg, Tg.asgs, mMut, sPutL, bGet, sPutD, wDisp, ePub, bIxL, sPutS, mChk, mInt, D.isStr, D.isInt, D.tru, fLen_l, fLen_t, List.length_map, iVal, itemsD, iRange, plainS, wipeE, backE, wComp, wCompB, List.all_cons, List.all_nil, Slot.isVal, Bool.and_true, Bool.true_and, Bool.and_self, fsem, env0, fill, wMove, Slot.frz, List.getElem?_cons_zero, List.getElem?_cons_succ, List.set_cons_zero, List.set_cons_succ, List.map_cons, List.map_nil, List.cons_append, List.nil_append, List.reduceReplicate, Option.getD_some, List.length_cons, List.length_nil, List.getD_cons_zero, List.getD_cons_succ, Nat.reduceAdd, Nat.reduceSub, Option.map_some, if_true, if_false, ite_true, ite_false, Bool.false_eq_true, reduceIte, Nat.reduceLeDiff, Nat.reduceEqDiff, Int.reduceEq, Int.reduceNe, Int.reduceLT, Int.reduceLE, Int.reduceNeg, Int.reducePow, ne_eq, not_false_eq_true, decide_true, decide_false, true_and, and_true, true_or, or_true, and_self, Bool.not_true, Bool.not_false, reduceCtorEq, ft]
def chB : Sm := sSeq (sPar [6, 7, 8] [wCall F__law_next [] ar2 [bVar 0, bPrim fAdd [.ex (bPrim fLen [.sl 4]), .ex (bC (.int 1))]] [], wCall F__law_next [] ar2 [bVar 0, bC (.int 5)] [], wVal (bPrim fIx [.sl 2, .ex (eFrz (wCall F__law_next [] ar2 [bVar 0, bPrim fLen [.sl 2]] []))])]) (sSeq (sIf (tAndB (tBool (bPrim fLt [.sl 7, .ex (bC (.int 2))])) (tBool (bPrim fLt [.ex (bPrim fLen [.sl 4]), .ex (bC (.int 60))]))) (sSeq (sDrop (mMut 4 mfInsert [bVar 6, bVar 8])) (sOk .next)) (sSeq (sIf (tBool (bPrim fEq [.sl 7, .ex (bC (.int 2))])) (sSeq (sSet 4 (wPrim fAdd [.ex (bPrim fSl01 [.sl 4, mInt (bVar 6)]), .ex (bPrim fSl10 [.sl 4, mInt (bPrim fAdd [.sl 6, .ex (bC (.int 1))])])])) (sOk .next)) (sSeq (sIf (tAndB (tBool (bPrim fEq [.sl 7, .ex (bC (.int 3))])) (tBool (bPrim fLt [.sl 6, .ex (bPrim fLen [.sl 4])]))) (sSeq (sPutL 4 (bVar 6) (bVar 8)) (sOk .next)) (sSeq (sIf (tBool (bPrim fLt [.sl 6, .ex (bPrim fLen [.sl 4])])) (sSeq (sSet 8 (wVal (mMut 4 mfPopAt [bVar 6]))) (sSeq (sDrop (mMut 4 mfInsert [eFrz (wCall F__law_next [] ar2 [bVar 0, bPrim fAdd [.ex (bPrim fLen [.sl 4]), .ex (bC (.int 1))]] []), bVar 8])) (sOk .next))) (sOk .next)) (sOk .next))) (sOk .next))) (sOk .next))) (sOk .next))
def envC (xs pool zs : List Str) (many : Nat) (x5 x6 x7 x8 : Option Slot) : Env := [some (.val (.ref 0)), some (.val (.tup (dl xs))), some (.val (.lst (dl pool))), some (.val (.int (many : Nat))), some (.own (dl zs)), x5, x6, x7, x8]
theorem dl_take (zs : List Str) (k : Nat) : (dl zs).take k = dl (zs.take k) := by unfold dl; rw [List.map_take]
theorem dl_drop (zs : List Str) (k : Nat) : (dl zs).drop k = dl (zs.drop k) := by unfold dl; rw [List.map_drop]
theorem dl_app (a b : List Str) : dl a ++ dl b = dl (a ++ b) := by unfold dl; rw [List.map_append]
theorem dl_one (x : Str) : [D.str x] = dl [x] := rfl
theorem lt_n (a b : Nat) : fLt [.int (a : Nat), .int (b : Nat)] = some (.bl (decide (a < b))) := by
  show some (D.bl (decide ((a : Int) < (b : Int)))) = _
  congr 2
  exact decide_eq_decide.mpr (by omega)
theorem ins_n (zs : List Str) (k : Nat) (x : Str) (h : k ≤ 1000) : mfInsert (dl zs) [.int (k : Nat), .str x] = some (dl (zs.take k ++ [x] ++ zs.drop k), .non) := by
  refine (if_pos (nnI_iff ⟨by omega, by omega⟩)).trans ?_
  rw [Int.toNat_natCast, dl_take, dl_drop, dl_one, dl_app, dl_app]
theorem pop_n (zs : List Str) (k : Nat) (h : k < zs.length) (hz : zs.length ≤ 1000) : mfPopAt (dl zs) [.int (k : Nat)] = some (dl (zs.eraseIdx k), .str zs[k]) := by
  refine (if_pos (smI_iff ⟨by omega, by omega⟩)).trans ?_
  have e : seqIndex? (k : Int) (dl zs).length = some k := by
    have := seqIndex_of (k := (k : Int)) (n := (dl zs).length) (by omega) (by rw [dl_length]; omega)
    rw [this, Int.toNat_natCast]
  have e2 : (dl zs).eraseIdx k = dl (zs.eraseIdx k) := by
    unfold dl
    exact er_map _ _ _
  rw [e]
  show (match (dl zs)[k]? with | some d => some ((dl zs).eraseIdx k, d) | none => none) = _
  rw [dl_get h, e2]
theorem chg_step {t many : Nat} {S : Sto} {xs pool zs : List Str} {j : Nat} {x5 x6 x7 x8 : Option Slot} (h : Dr t S) (ht : t < 100000000) (hp : Pool pool) (hz : zs.length ≤ 40) (hok : ∀ z ∈ zs, LineOk z) :
    ∃ zs' S' x5' x6' x7' x8', (∀ z ∈ zs', LineOk z) ∧ zs'.length ≤ zs.length + 1 ∧ Dr (t + 4) S' ∧ ∀ ds, forL (.nm 5) chB (.int (j : Nat) :: ds) (envC xs pool zs many x5 x6 x7 x8) S = forL (.nm 5) chB ds (envC xs pool zs' many x5' x6' x7' x8') S' := by
  obtain ⟨p1, p2⟩ := pool_pos hp
  obtain ⟨at0, S1, a0, a1, d1, e1⟩ := next_ok (many := ((zs.length + 1 : Nat) : Int)) h (by omega) (by omega) (by omega)
  obtain ⟨a, rfl⟩ := Int.eq_ofNat_of_zero_le a0
  obtain ⟨way, S2, w0, w1, d2, e2⟩ := next_ok (many := 5) d1 (by omega) (by omega) (by omega)
  obtain ⟨w, rfl⟩ := Int.eq_ofNat_of_zero_le w0
  obtain ⟨r, S3, r0, r1, d3, e3⟩ := next_ok (many := (pool.length : Int)) d2 (by omega) p1 (by omega)
  obtain ⟨x, hx, ex⟩ := pick_ok hp r0 r1
  have ha : a ≤ zs.length := by omega
  have h60 : ((zs.length : Nat) : Int) < 60 := by omega
  have mem_ins : ∀ (l : List Str) (k : Nat), (∀ z ∈ l, LineOk z) → ∀ y, LineOk y → ∀ z ∈ l.take k ++ [y] ++ l.drop k, LineOk z := fun l k hl y hy z hz => by
    rcases List.mem_append.mp hz with hz | hz
    · rcases List.mem_append.mp hz with hz | hz
      · exact hl z (List.mem_of_mem_take hz)
      · rw [List.mem_singleton] at hz; subst hz; exact hy
    · exact hl z (List.mem_of_mem_drop hz)
  by_cases q1 : w < 2
  · have q1i : ((w : Nat) : Int) < 2 := by omega
    have hl : (zs.take a ++ [x] ++ zs.drop a).length ≤ 16777216 := by simp; omega
    refine ⟨zs.take a ++ [x] ++ zs.drop a, S3, some (.val (.int (j : Nat))), some (.val (.int (a : Nat))), some (.val (.int (w : Nat))), some (.val (.str x)), mem_ins zs a hok x hx, by simp; omega, d3.mono (by omega), fun ds => ?_⟩
    rw [forL]
    have ei := ins_n zs a x (by omega)
    simp only [chB, envC, Int.ofNat_lt, Int.ofNat_le, bind_ok, bind_exc, bind_stuck, sizeLine_eq, fMod_i, fFdiv_i, fMul_i, fMul_i1, fMul_i2, fm0, fm1, fAdd_i, fSub_i, fPow_i, fAdd_l, fAdd_t, fAdd_s, fLt_i, fLe_i, fGt_i, fGe_i, evO, resW, evR, bPrim, bC, bVar, tTru, tBool, tNotB, tAndB, tOrB, bAnd, bOr, bNot, bIf, wIf, evX, bTup, wLst, wPrim, wVal, eFrz, wCall, sOk, sRet, sSet, sIf, sSeq, sDrop, sPar, evW, setAll, Tg.asg, Tg.asgs, mMut, sPutL, bGet, sPutD, wDisp, ePub, bIxL, sPutS, mChk, mInt, D.isStr, D.isInt, D.tru, fLen_l, fLen_t, List.length_map, iVal, itemsD, iRange, plainS, wipeE, backE, wComp, wCompB, List.all_cons, List.all_nil, Slot.isVal, Bool.and_true, Bool.true_and, Bool.and_self, fsem, env0, fill, wMove, Slot.frz, List.getElem?_cons_zero, List.getElem?_cons_succ, List.set_cons_zero, List.set_cons_succ, List.map_cons, List.map_nil, List.cons_append, List.nil_append, List.reduceReplicate, Option.getD_some, List.length_cons, List.length_nil, List.getD_cons_zero, List.getD_cons_succ, Nat.reduceAdd, Nat.reduceSub, Option.map_some, if_true, if_false, ite_true, ite_false, Bool.false_eq_true, reduceIte, Nat.reduceLeDiff, Nat.reduceEqDiff, Int.reduceEq, Int.reduceNe, Int.reduceLT, Int.reduceLE, Int.reduceNeg, Int.reducePow, ne_eq, not_false_eq_true, decide_true, decide_false, true_and, and_true, true_or, or_true, and_self, Bool.not_true, Bool.not_false, reduceCtorEq, dl_length, cast1, e1, e2, e3, ex, q1i, h60, ei, hl]
  · have q1i : ¬ ((w : Nat) : Int) < 2 := by omega
    by_cases q2 : w = 2
    · have z2 : fEq [.int (w : Nat), .int 2] = some (.bl true) := by rw [eq_i, decide_eq_true (by omega)]
      have hl : (zs.take a).length + (zs.drop (a + 1)).length ≤ 16777216 := by simp; omega
      refine ⟨zs.take a ++ zs.drop (a + 1), S3, some (.val (.int (j : Nat))), some (.val (.int (a : Nat))), some (.val (.int (w : Nat))), some (.val (.str x)), fun z hz => ?_, by simp; omega, d3.mono (by omega), fun ds => ?_⟩
      · rcases List.mem_append.mp hz with hz | hz
        · exact hok z (List.mem_of_mem_take hz)
        · exact hok z (List.mem_of_mem_drop hz)
      · rw [forL]
        simp only [chB, envC, Int.ofNat_lt, Int.ofNat_le, bind_ok, bind_exc, bind_stuck, sizeLine_eq, fMod_i, fFdiv_i, fMul_i, fMul_i1, fMul_i2, fm0, fm1, fAdd_i, fSub_i, fPow_i, fAdd_l, fAdd_t, fAdd_s, fLt_i, fLe_i, fGt_i, fGe_i, evO, resW, evR, bPrim, bC, bVar, tTru, tBool, tNotB, tAndB, tOrB, bAnd, bOr, bNot, bIf, wIf, evX, bTup, wLst, wPrim, wVal, eFrz, wCall, sOk, sRet, sSet, sIf, sSeq, sDrop, sPar, evW, setAll, Tg.asg, Tg.asgs, mMut, sPutL, bGet, sPutD, wDisp, ePub, bIxL, sPutS, mChk, mInt, D.isStr, D.isInt, D.tru, fLen_l, fLen_t, List.length_map, iVal, itemsD, iRange, plainS, wipeE, backE, wComp, wCompB, List.all_cons, List.all_nil, Slot.isVal, Bool.and_true, Bool.true_and, Bool.and_self, fsem, env0, fill, wMove, Slot.frz, List.getElem?_cons_zero, List.getElem?_cons_succ, List.set_cons_zero, List.set_cons_succ, List.map_cons, List.map_nil, List.cons_append, List.nil_append, List.reduceReplicate, Option.getD_some, List.length_cons, List.length_nil, List.getD_cons_zero, List.getD_cons_succ, Nat.reduceAdd, Nat.reduceSub, Option.map_some, if_true, if_false, ite_true, ite_false, Bool.false_eq_true, reduceIte, Nat.reduceLeDiff, Nat.reduceEqDiff, Int.reduceEq, Int.reduceNe, Int.reduceLT, Int.reduceLE, Int.reduceNeg, Int.reducePow, ne_eq, not_false_eq_true, decide_true, decide_false, true_and, and_true, true_or, or_true, and_self, Bool.not_true, Bool.not_false, reduceCtorEq, dl_length, cast1, e1, e2, e3, ex, q1i, z2, sl_to_l, sl_from_l, dl_take, dl_drop, hl, dl_app]
    · have z2 : fEq [.int (w : Nat), .int 2] = some (.bl false) := by rw [eq_i, decide_eq_false (by omega)]
      by_cases q4 : a < zs.length
      · have q4i : ((a : Nat) : Int) < ((zs.length : Nat) : Int) := by omega
        by_cases q3 : w = 3
        · have z3 : fEq [.int (w : Nat), .int 3] = some (.bl true) := by rw [eq_i, decide_eq_true (by omega)]
          have ix : ixN (dl zs).length (a : Int) = some a := ixN_n (by rw [dl_length]; exact q4)
          rw [dl_length] at ix
          refine ⟨zs.set a x, S3, some (.val (.int (j : Nat))), some (.val (.int (a : Nat))), some (.val (.int (w : Nat))), some (.val (.str x)), fun z hz => ?_, by simp, d3.mono (by omega), fun ds => ?_⟩
          · rcases List.mem_or_eq_of_mem_set hz with hz | hz
            · exact hok z hz
            · subst hz; exact hx
          · rw [forL]
            have es : (dl zs).set a (.str x) = dl (zs.set a x) := by unfold dl; rw [List.map_set]
            simp only [chB, envC, Int.ofNat_lt, Int.ofNat_le, bind_ok, bind_exc, bind_stuck, sizeLine_eq, fMod_i, fFdiv_i, fMul_i, fMul_i1, fMul_i2, fm0, fm1, fAdd_i, fSub_i, fPow_i, fAdd_l, fAdd_t, fAdd_s, fLt_i, fLe_i, fGt_i, fGe_i, evO, resW, evR, bPrim, bC, bVar, tTru, tBool, tNotB, tAndB, tOrB, bAnd, bOr, bNot, bIf, wIf, evX, bTup, wLst, wPrim, wVal, eFrz, wCall, sOk, sRet, sSet, sIf, sSeq, sDrop, sPar, evW, setAll, Tg.asg, Tg.asgs, mMut, sPutL, bGet, sPutD, wDisp, ePub, bIxL, sPutS, mChk, mInt, D.isStr, D.isInt, D.tru, fLen_l, fLen_t, List.length_map, iVal, itemsD, iRange, plainS, wipeE, backE, wComp, wCompB, List.all_cons, List.all_nil, Slot.isVal, Bool.and_true, Bool.true_and, Bool.and_self, fsem, env0, fill, wMove, Slot.frz, List.getElem?_cons_zero, List.getElem?_cons_succ, List.set_cons_zero, List.set_cons_succ, List.map_cons, List.map_nil, List.cons_append, List.nil_append, List.reduceReplicate, Option.getD_some, List.length_cons, List.length_nil, List.getD_cons_zero, List.getD_cons_succ, Nat.reduceAdd, Nat.reduceSub, Option.map_some, if_true, if_false, ite_true, ite_false, Bool.false_eq_true, reduceIte, Nat.reduceLeDiff, Nat.reduceEqDiff, Int.reduceEq, Int.reduceNe, Int.reduceLT, Int.reduceLE, Int.reduceNeg, Int.reducePow, ne_eq, not_false_eq_true, decide_true, decide_false, true_and, and_true, true_or, or_true, and_self, Bool.not_true, Bool.not_false, reduceCtorEq, dl_length, cast1, e1, e2, e3, ex, q1i, z2, z3, q4i, ix, es]
        · have z3 : fEq [.int (w : Nat), .int 3] = some (.bl false) := by rw [eq_i, decide_eq_false (by omega)]
          have ep := pop_n zs a q4 (by omega)
          have hle : (zs.eraseIdx a).length = zs.length - 1 := by rw [List.length_eraseIdx, if_pos q4]
          obtain ⟨b0, S4, b1, b2, d4, e4⟩ := next_ok (many := (((zs.eraseIdx a).length + 1 : Nat) : Int)) d3 (by omega) (by omega) (by omega)
          obtain ⟨b, rfl⟩ := Int.eq_ofNat_of_zero_le b1
          have ei := ins_n (zs.eraseIdx a) b zs[a] (by omega)
          have hmem : ∀ z ∈ zs.eraseIdx a, LineOk z := fun z hz => hok z (List.mem_of_mem_eraseIdx hz)
          have hl1 : (zs.eraseIdx a).length ≤ 16777216 := by omega
          have hl : ((zs.eraseIdx a).take b ++ [zs[a]] ++ (zs.eraseIdx a).drop b).length ≤ 16777216 := by simp; omega
          refine ⟨(zs.eraseIdx a).take b ++ [zs[a]] ++ (zs.eraseIdx a).drop b, S4, some (.val (.int (j : Nat))), some (.val (.int (a : Nat))), some (.val (.int (w : Nat))), some (.val (.str zs[a])), mem_ins _ b hmem _ (hok _ (List.getElem_mem q4)), by simp; omega, d4.mono (by omega), fun ds => ?_⟩
          rw [forL]
          simp only [chB, envC, Int.ofNat_lt, Int.ofNat_le, bind_ok, bind_exc, bind_stuck, sizeLine_eq, fMod_i, fFdiv_i, fMul_i, fMul_i1, fMul_i2, fm0, fm1, fAdd_i, fSub_i, fPow_i, fAdd_l, fAdd_t, fAdd_s, fLt_i, fLe_i, fGt_i, fGe_i, evO, resW, evR, bPrim, bC, bVar, tTru, tBool, tNotB, tAndB, tOrB, bAnd, bOr, bNot, bIf, wIf, evX, bTup, wLst, wPrim, wVal, eFrz, wCall, sOk, sRet, sSet, sIf, sSeq, sDrop, sPar, evW, setAll, Tg.asg, Tg.asgs, mMut, sPutL, bGet, sPutD, wDisp, ePub, bIxL, sPutS, mChk, mInt, D.isStr, D.isInt, D.tru, fLen_l, fLen_t, List.length_map, iVal, itemsD, iRange, plainS, wipeE, backE, wComp, wCompB, List.all_cons, List.all_nil, Slot.isVal, Bool.and_true, Bool.true_and, Bool.and_self, fsem, env0, fill, wMove, Slot.frz, List.getElem?_cons_zero, List.getElem?_cons_succ, List.set_cons_zero, List.set_cons_succ, List.map_cons, List.map_nil, List.cons_append, List.nil_append, List.reduceReplicate, Option.getD_some, List.length_cons, List.length_nil, List.getD_cons_zero, List.getD_cons_succ, Nat.reduceAdd, Nat.reduceSub, Option.map_some, if_true, if_false, ite_true, ite_false, Bool.false_eq_true, reduceIte, Nat.reduceLeDiff, Nat.reduceEqDiff, Int.reduceEq, Int.reduceNe, Int.reduceLT, Int.reduceLE, Int.reduceNeg, Int.reducePow, ne_eq, not_false_eq_true, decide_true, decide_false, true_and, and_true, true_or, or_true, and_self, Bool.not_true, Bool.not_false, reduceCtorEq, dl_length, cast1, e1, e2, e3, ex, q1i, z2, z3, q4i, ep, hl1, e4, ei, hl]
      · have q4i : ¬ ((a : Nat) : Int) < ((zs.length : Nat) : Int) := by omega
        refine ⟨zs, S3, some (.val (.int (j : Nat))), some (.val (.int (a : Nat))), some (.val (.int (w : Nat))), some (.val (.str x)), hok, by omega, d3.mono (by omega), fun ds => ?_⟩
        rw [forL]
        by_cases q3 : w = 3
        · have z3 : fEq [.int (w : Nat), .int 3] = some (.bl true) := by rw [eq_i, decide_eq_true (by omega)]
          simp only [chB, envC, Int.ofNat_lt, Int.ofNat_le, bind_ok, bind_exc, bind_stuck, sizeLine_eq, fMod_i, fFdiv_i, fMul_i, fMul_i1, fMul_i2, fm0, fm1, fAdd_i, fSub_i, fPow_i, fAdd_l, fAdd_t, fAdd_s, fLt_i, fLe_i, fGt_i, fGe_i, evO, resW, evR, bPrim, bC, bVar, tTru, tBool, tNotB, tAndB, tOrB, bAnd, bOr, bNot, bIf, wIf, evX, bTup, wLst, wPrim, wVal, eFrz, wCall, sOk, sRet, sSet, sIf, sSeq, sDrop, sPar, evW, setAll, Tg.asg, Tg.asgs, mMut, sPutL, bGet, sPutD, wDisp, ePub, bIxL, sPutS, mChk, mInt, D.isStr, D.isInt, D.tru, fLen_l, fLen_t, List.length_map, iVal, itemsD, iRange, plainS, wipeE, backE, wComp, wCompB, List.all_cons, List.all_nil, Slot.isVal, Bool.and_true, Bool.true_and, Bool.and_self, fsem, env0, fill, wMove, Slot.frz, List.getElem?_cons_zero, List.getElem?_cons_succ, List.set_cons_zero, List.set_cons_succ, List.map_cons, List.map_nil, List.cons_append, List.nil_append, List.reduceReplicate, Option.getD_some, List.length_cons, List.length_nil, List.getD_cons_zero, List.getD_cons_succ, Nat.reduceAdd, Nat.reduceSub, Option.map_some, if_true, if_false, ite_true, ite_false, Bool.false_eq_true, reduceIte, Nat.reduceLeDiff, Nat.reduceEqDiff, Int.reduceEq, Int.reduceNe, Int.reduceLT, Int.reduceLE, Int.reduceNeg, Int.reducePow, ne_eq, not_false_eq_true, decide_true, decide_false, true_and, and_true, true_or, or_true, and_self, Bool.not_true, Bool.not_false, reduceCtorEq, dl_length, cast1, e1, e2, e3, ex, q1i, z2, z3, q4i]
        · have z3 : fEq [.int (w : Nat), .int 3] = some (.bl false) := by rw [eq_i, decide_eq_false (by omega)]
          simp only [chB, envC, Int.ofNat_lt, Int.ofNat_le, bind_ok, bind_exc, bind_stuck, sizeLine_eq, fMod_i, fFdiv_i, fMul_i, fMul_i1, fMul_i2, fm0, fm1, fAdd_i, fSub_i, fPow_i, fAdd_l, fAdd_t, fAdd_s, fLt_i, fLe_i, fGt_i, fGe_i, evO, resW, evR, bPrim, bC, bVar, tTru, tBool, tNotB, tAndB, tOrB, bAnd, bOr, bNot, bIf, wIf, evX, bTup, wLst, wPrim, wVal, eFrz, wCall, sOk, sRet, sSet, sIf, sSeq, sDrop, sPar, evW, setAll, Tg.asg, Tg.asgs, mMut, sPutL, bGet, sPutD, wDisp, ePub, bIxL, sPutS, mChk, mInt, D.isStr, D.isInt, D.tru, fLen_l, fLen_t, List.length_map, iVal, itemsD, iRange, plainS, wipeE, backE, wComp, wCompB, List.all_cons, List.all_nil, Slot.isVal, Bool.and_true, Bool.true_and, Bool.and_self, fsem, env0, fill, wMove, Slot.frz, List.getElem?_cons_zero, List.getElem?_cons_succ, List.set_cons_zero, List.set_cons_succ, List.map_cons, List.map_nil, List.cons_append, List.nil_append, List.reduceReplicate, Option.getD_some, List.length_cons, List.length_nil, List.getD_cons_zero, List.getD_cons_succ, Nat.reduceAdd, Nat.reduceSub, Option.map_some, if_true, if_false, ite_true, ite_false, Bool.false_eq_true, reduceIte, Nat.reduceLeDiff, Nat.reduceEqDiff, Int.reduceEq, Int.reduceNe, Int.reduceLT, Int.reduceLE, Int.reduceNeg, Int.reducePow, ne_eq, not_false_eq_true, decide_true, decide_false, true_and, and_true, true_or, or_true, and_self, Bool.not_true, Bool.not_false, reduceCtorEq, dl_length, cast1, e1, e2, e3, ex, q1i, z2, z3, q4i]
theorem changed_ok {t many : Nat} {S : Sto} {xs pool : List Str} (h : Dr t S) (ht : t < 10000000) (hp : Pool pool) (hx : xs.length ≤ 28) (hok : ∀ z ∈ xs, LineOk z) (hm : many < 10) :
    ∃ zs S', (Lns zs ∧ zs.length ≤ xs.length + many) ∧ Dr (t + 40) S' ∧ F__law_changed [.ref 0, .tup (dl xs), .lst (dl pool), .int (many : Nat)] S = .ok (.val (.tup (dl zs))) [] S' := by
  have r1 := range1_ok many (by omega)
  obtain ⟨e', S', h1, zs, x5, x6, x7, x8, k1, k2, k3, rfl⟩ := forL_rng (t := .nm 5) (m := chB) (fun j e S' => ∃ zs x5 x6 x7 x8, zs.length ≤ xs.length + j ∧ (∀ z ∈ zs, LineOk z) ∧ Dr (t + 4 * j) S' ∧ e = envC xs pool zs many x5 x6 x7 x8) (g := fun i => .int (i : Nat)) many 0 (envC xs pool xs many none none none none) S ⟨xs, none, none, none, none, by omega, hok, h, rfl⟩ fun j _ hj e S' hI => by
    obtain ⟨zs, x5, x6, x7, x8, k1, k2, k3, rfl⟩ := hI
    obtain ⟨zs', S2, y5, y6, y7, y8, m1, m2, m3, m4⟩ := chg_step (xs := xs) (many := many) (j := j) (x5 := x5) (x6 := x6) (x7 := x7) (x8 := x8) k3 (by omega) hp (by omega) k2
    exact ⟨_, S2, m4, zs', y5, y6, y7, y8, by omega, m1, m3, rfl⟩
  rw [← rangeD_up] at h1
  refine ⟨zs, S', ⟨⟨by omega, k2⟩, by omega⟩, k3.mono (by omega), ?_⟩
  have ft : ∀ ds, fTuple [.lst ds] = some (.tup ds) := fun _ => rfl
  have fl : ∀ ds, fList [.tup ds] = some (.lst ds) := fun _ => rfl
  unfold chB envC mInt at h1
  simp only [F__law_changed, m__law_changed, Int.ofNat_lt, Int.ofNat_le, bind_ok, bind_exc, bind_stuck, sizeLine_eq, fMod_i, fFdiv_i, fMul_i, fMul_i1, fMul_i2, fm0, fm1, fAdd_i, fSub_i, fPow_i, fAdd_l, fAdd_t, fAdd_s, fLt_i, fLe_i, fGt_i, fGe_i, evO, resW, evR, bPrim, bC, bVar, tTru, tBool, tNotB, tAndB, tOrB, bAnd, bOr, bNot, bIf, wIf, evX, bTup, wLst, wPrim, wVal, eFrz, wCall, sOk, sRet, sSet, sIf, sSeq, sDrop, sPar, evW, setAll, Tg.asg, Tg.asgs, mMut, sPutL, bGet, sPutD, wDisp, ePub, bIxL, sPutS, mChk, mInt, D.isStr, D.isInt, D.tru, fLen_l, fLen_t, List.length_map, iVal, itemsD, iRange, plainS, wipeE, backE, wComp, wCompB, List.all_cons, List.all_nil, Slot.isVal, Bool.and_true, Bool.true_and, Bool.and_self, fsem, env0, fill, wMove, Slot.frz, List.getElem?_cons_zero, List.getElem?_cons_succ, List.set_cons_zero, List.set_cons_succ, List.map_cons, List.map_nil, List.cons_append, List.nil_append, List.reduceReplicate, Option.getD_some, List.length_cons, List.length_nil, List.getD_cons_zero, List.getD_cons_succ, Nat.reduceAdd, Nat.reduceSub, Option.map_some, if_true, if_false, ite_true, ite_false, Bool.false_eq_true, reduceIte, Nat.reduceLeDiff, Nat.reduceEqDiff, Int.reduceEq, Int.reduceNe, Int.reduceLT, Int.reduceLE, Int.reduceNeg, Int.reducePow, ne_eq, not_false_eq_true, decide_true, decide_false, true_and, and_true, true_or, or_true, and_self, Bool.not_true, Bool.not_false, reduceCtorEq, fl, r1, sFor]
  rw [h1]
  simp only [Int.ofNat_lt, Int.ofNat_le, bind_ok, bind_exc, bind_stuck, sizeLine_eq, fMod_i, fFdiv_i, fMul_i, fMul_i1, fMul_i2, fm0, fm1, fAdd_i, fSub_i, fPow_i, fAdd_l, fAdd_t, fAdd_s, fLt_i, fLe_i, fGt_i, fGe_i, evO, resW, evR, bPrim, bC, bVar, tTru, tBool, tNotB, tAndB, tOrB, bAnd, bOr, bNot, bIf, wIf, evX, bTup, wLst, wPrim, wVal, eFrz, wCall, sOk, sRet, sSet, sIf, sSeq, sDrop, sPar, evW, setAll, Tg.asg, Tg.asgs, mMut, sPutL, bGet, sPutD, wDisp, ePub, bIxL, sPutS, mChk, mInt, D.isStr, D.isInt, D.tru, fLen_l, fLen_t, List.length_map, iVal, itemsD, iRange, plainS, wipeE, backE, wComp, wCompB, List.all_cons, List.all_nil, Slot.isVal, Bool.and_true, Bool.true_and, Bool.and_self, fsem, env0, fill, wMove, Slot.frz, List.getElem?_cons_zero, List.getElem?_cons_succ, List.set_cons_zero, List.set_cons_succ, List.map_cons, List.map_nil, List.cons_append, List.nil_append, List.reduceReplicate, Option.getD_some, List.length_cons, List.length_nil, List.getD_cons_zero, List.getD_cons_succ, Nat.reduceAdd, Nat.reduceSub, Option.map_some, if_true, if_false, ite_true, ite_false, Bool.false_eq_true, reduceIte, Nat.reduceLeDiff, Nat.reduceEqDiff, Int.reduceEq, Int.reduceNe, Int.reduceLT, Int.reduceLE, Int.reduceNeg, Int.reducePow, ne_eq, not_false_eq_true, decide_true, decide_false, true_and, and_true, true_or, or_true, and_self, Bool.not_true, Bool.not_false, reduceCtorEq, ft]

theorem comm_self (xs : List Str) : comm xs xs = (List.range xs.length).map fun i => (0 + i, 0 + i) :=
  (comm_chain xs xs).uniq (self_chain (xs := xs) xs.length 0 (by omega))
end TM.Ln
namespace TM.Pt
open PySem PySem.Spec L2 TM
open PyProof.Rows hiding St

/-! parts of a merge by lines, in plain Lean -/
inductive Pt (α : Type) where
  | reg (o m y : List α) | stay (xs : List α)
variable {α : Type}
def Pt.isStay : Pt α → Bool
  | .stay _ => true
  | _ => false
def Pt.glue : Pt α → Pt α → Pt α
  | .stay a, .stay b => .stay (a ++ b)
  | _, q => q
/-- one part more: stays are one -/
def mstep (sm : List (Pt α)) (p : Pt α) : List (Pt α) := match sm.getLast? with
  | some q => if p.isStay && q.isStay then sm.dropLast ++ [q.glue p] else sm ++ [p]
  | none => sm ++ [p]
def mid (xs : List α) (a k : Nat) : List α := (xs.take k).drop a
def regs (o m y : List α) : List (Pt α) := if o.length + m.length + y.length = 0 then [] else [.reg o m y]
section
variable (base left right : List α)
def pc (t u : Nat × Nat × Nat) : List (Pt α) := regs (mid base u.1 t.1) (mid left u.2.1 t.2.1) (mid right u.2.2 t.2.2)
def st (k : Nat) : Pt α := .stay (mid base k (k + 1))
def nx (t : Nat × Nat × Nat) : Nat × Nat × Nat := (t.1 + 1, t.2.1 + 1, t.2.2 + 1)
def ends : Nat × Nat × Nat := (base.length, left.length, right.length)
def pcs : List (Nat × Nat × Nat) → Nat × Nat × Nat → List (Pt α)
  | [], u => pc base left right (ends base left right) u
  | t :: ts, u => pc base left right t u ++ st base t.1 :: pcs ts (nx t)
def parts (ts : List (Nat × Nat × Nat)) : List (Pt α) := (pcs base left right ts (0, 0, 0)).foldl mstep []
end
def Pt.one : Pt α → List α
  | .reg o _ _ => o
  | .stay xs => xs
def Pt.two : Pt α → List α
  | .reg _ m _ => m
  | .stay xs => xs
def Pt.three : Pt α → List α
  | .reg _ _ y => y
  | .stay xs => xs
theorem mstep_cat (f : Pt α → List α) (hf : ∀ a b : List α, f (.stay (a ++ b)) = f (.stay a) ++ f (.stay b)) (sm : List (Pt α)) (p : Pt α) : (mstep sm p).flatMap f = sm.flatMap f ++ f p := by
  unfold mstep
  cases h : sm.getLast? with
  | none => simp
  | some q =>
    have e : sm = sm.dropLast ++ [q] := by
      obtain ⟨ys, rfl⟩ := List.getLast?_eq_some_iff.mp h
      simp
    simp only
    split
    · rename_i hs
      rw [Bool.and_eq_true] at hs
      cases p with
      | reg _ _ _ => cases hs.1
      | stay b =>
        cases q with
        | reg _ _ _ => cases hs.2
        | stay a =>
          rw [show sm.flatMap f = (sm.dropLast ++ [Pt.stay a]).flatMap f by rw [← e]]
          simp [Pt.glue, hf]
    · simp
theorem fold_cat (f : Pt α → List α) (hf : ∀ a b : List α, f (.stay (a ++ b)) = f (.stay a) ++ f (.stay b)) : ∀ (ps sm : List (Pt α)), (ps.foldl mstep sm).flatMap f = sm.flatMap f ++ ps.flatMap f
  | [], sm => by simp
  | p :: ps, sm => by
    rw [List.foldl_cons, fold_cat f hf ps, mstep_cat f hf, List.flatMap_cons, List.append_assoc]
theorem fold_len : ∀ (ps sm : List (Pt α)), (ps.foldl mstep sm).length ≤ sm.length + ps.length
  | [], sm => by simp
  | p :: ps, sm => by
    have := fold_len ps (mstep sm p)
    rw [List.foldl_cons, List.length_cons]
    have h : (mstep sm p).length ≤ sm.length + 1 := by
      unfold mstep
      split
      · split
        · simp; try omega
        · simp
      · simp
    omega
/-- rising, of like lines -/
structure Tri (base left right : List α) (t u : Nat × Nat × Nat) : Prop where
  le : u.1 ≤ t.1 ∧ u.2.1 ≤ t.2.1 ∧ u.2.2 ≤ t.2.2
  lt : t.1 < base.length ∧ t.2.1 < left.length ∧ t.2.2 < right.length
  eq : base[t.1]? = left[t.2.1]? ∧ base[t.1]? = right[t.2.2]?
def Tris (base left right : List α) : List (Nat × Nat × Nat) → Nat × Nat × Nat → Prop
  | [], _ => True
  | t :: ts, u => Tri base left right t u ∧ Tris base left right ts (nx t)
theorem mid_all (xs : List α) (a : Nat) : mid xs a xs.length = xs.drop a := by unfold mid; rw [List.take_length]
theorem mid_one {xs ys : List α} {k i : Nat} (h : xs[k]? = ys[i]?) : mid xs k (k + 1) = mid ys i (i + 1) := by
  unfold mid
  rw [List.take_add_one, List.take_add_one, h, List.drop_append, List.drop_append, List.drop_take_self, List.drop_take_self]
  rw [List.length_take, List.length_take]
  by_cases hk : k < xs.length
  · have hi : i < ys.length := by
      rw [List.getElem?_eq_getElem hk] at h
      exact (List.getElem?_eq_some_iff.mp h.symm).1
    rw [Nat.min_eq_left (by omega), Nat.min_eq_left (by omega)]; simp
  · have e : ys[i]? = none := by rw [← h]; exact List.getElem?_eq_none (by omega)
    rw [e]; simp
theorem mid_cut {xs : List α} {a k : Nat} (h1 : a ≤ k) (h2 : k < xs.length) : mid xs a k ++ (mid xs k (k + 1) ++ xs.drop (k + 1)) = xs.drop a := by
  have e1 : mid xs k (k + 1) ++ xs.drop (k + 1) = xs.drop k := by
    unfold mid
    have : (xs.take (k + 1)).drop k = [xs[k]] := by
      rw [List.take_add_one, List.drop_append, List.drop_take_self, List.length_take, Nat.min_eq_left (by omega), List.getElem?_eq_getElem h2]; simp
    rw [this, List.singleton_append]
    exact (List.drop_eq_getElem_cons h2).symm
  rw [e1]
  unfold mid
  have : xs.drop a = (xs.take k ++ xs.drop k).drop a := by rw [List.take_append_drop]
  rw [this, List.drop_append, List.length_take, Nat.min_eq_left (by omega), show a - k = 0 by omega, List.drop_zero]
theorem regs_cat (f : Pt α → List α) (g : List α → List α → List α → List α) (hf : ∀ o m y, f (.reg o m y) = g o m y) (hg : g [] [] [] = []) (o m y : List α) : (regs o m y).flatMap f = g o m y := by
  unfold regs
  split
  · rename_i h
    have h1 : o = [] := List.eq_nil_of_length_eq_zero (by omega)
    have h2 : m = [] := List.eq_nil_of_length_eq_zero (by omega)
    have h3 : y = [] := List.eq_nil_of_length_eq_zero (by omega)
    subst h1 h2 h3
    rw [hg]; rfl
  · simp [hf]
theorem pcs_one {base left right : List α} : ∀ (ts : List (Nat × Nat × Nat)) (u : Nat × Nat × Nat), Tris base left right ts u → (pcs base left right ts u).flatMap Pt.one = base.drop u.1
  | [], u, _ => by
    unfold pcs pc
    rw [regs_cat Pt.one (fun o _ _ => o) (fun _ _ _ => rfl) rfl]
    exact mid_all _ _
  | t :: ts, u, h => by
    unfold pcs pc
    rw [List.flatMap_append, List.flatMap_cons, regs_cat Pt.one (fun o _ _ => o) (fun _ _ _ => rfl) rfl, pcs_one ts _ h.2]
    exact mid_cut h.1.le.1 h.1.lt.1
theorem pcs_two {base left right : List α} : ∀ (ts : List (Nat × Nat × Nat)) (u : Nat × Nat × Nat), Tris base left right ts u → (pcs base left right ts u).flatMap Pt.two = left.drop u.2.1
  | [], u, _ => by
    unfold pcs pc
    rw [regs_cat Pt.two (fun _ o _ => o) (fun _ _ _ => rfl) rfl]
    exact mid_all _ _
  | t :: ts, u, h => by
    unfold pcs pc
    rw [List.flatMap_append, List.flatMap_cons, regs_cat Pt.two (fun _ o _ => o) (fun _ _ _ => rfl) rfl, pcs_two ts _ h.2]
    show mid left u.2.1 t.2.1 ++ (mid base t.1 (t.1 + 1) ++ _) = _
    rw [mid_one h.1.eq.1]
    exact mid_cut h.1.le.2.1 h.1.lt.2.1
theorem pcs_three {base left right : List α} : ∀ (ts : List (Nat × Nat × Nat)) (u : Nat × Nat × Nat), Tris base left right ts u → (pcs base left right ts u).flatMap Pt.three = right.drop u.2.2
  | [], u, _ => by
    unfold pcs pc
    rw [regs_cat Pt.three (fun _ _ o => o) (fun _ _ _ => rfl) rfl]
    exact mid_all _ _
  | t :: ts, u, h => by
    unfold pcs pc
    rw [List.flatMap_append, List.flatMap_cons, regs_cat Pt.three (fun _ _ o => o) (fun _ _ _ => rfl) rfl, pcs_three ts _ h.2]
    show mid right u.2.2 t.2.2 ++ (mid base t.1 (t.1 + 1) ++ _) = _
    rw [mid_one h.1.eq.2]
    exact mid_cut h.1.le.2.2 h.1.lt.2.2
theorem parts_one {base left right : List α} {ts : List (Nat × Nat × Nat)} (h : Tris base left right ts (0, 0, 0)) : (parts base left right ts).flatMap Pt.one = base := by
  unfold parts
  rw [fold_cat Pt.one (fun _ _ => rfl), pcs_one _ _ h]; rfl
theorem parts_two {base left right : List α} {ts : List (Nat × Nat × Nat)} (h : Tris base left right ts (0, 0, 0)) : (parts base left right ts).flatMap Pt.two = left := by
  unfold parts
  rw [fold_cat Pt.two (fun _ _ => rfl), pcs_two _ _ h]; rfl
theorem parts_three {base left right : List α} {ts : List (Nat × Nat × Nat)} (h : Tris base left right ts (0, 0, 0)) : (parts base left right ts).flatMap Pt.three = right := by
  unfold parts
  rw [fold_cat Pt.three (fun _ _ => rfl), pcs_three _ _ h]; rfl
theorem regs_len (o m y : List α) : (regs o m y).length ≤ 1 := by unfold regs; split <;> simp
theorem pcs_len {base left right : List α} : ∀ (ts : List (Nat × Nat × Nat)) (u : Nat × Nat × Nat), (pcs base left right ts u).length ≤ 2 * ts.length + 1
  | [], u => regs_len _ _ _
  | t :: ts, u => by
    unfold pcs pc
    rw [List.length_append, List.length_cons, List.length_cons]
    have := regs_len (mid base u.1 t.1) (mid left u.2.1 t.2.1) (mid right u.2.2 t.2.2)
    have := pcs_len (base := base) (left := left) (right := right) ts (nx t)
    omega
theorem parts_len {base left right : List α} {ts : List (Nat × Nat × Nat)} : (parts base left right ts).length ≤ 2 * ts.length + 1 := by
  unfold parts
  have := fold_len (pcs base left right ts (0, 0, 0)) []
  have := pcs_len (base := base) (left := left) (right := right) ts (0, 0, 0)
  simp at *; omega
/-- the lines in both rows -/
def tri (C1 C2 : List (Nat × Nat)) : List (Nat × Nat × Nat) := C1.flatMap fun p => (C2.filter fun q => q.1 = p.1).map fun q => (p.1, p.2, q.2)
theorem filter_one {k : Nat} : ∀ {C : List (Nat × Nat)}, C.Pairwise (fun p q => p.1 < q.1 ∧ p.2 < q.2) → (C.filter fun q => q.1 = k) = [] ∨ ∃ q ∈ C, q.1 = k ∧ (C.filter fun q => q.1 = k) = [q]
  | [], _ => .inl rfl
  | p :: C, h => by
    rw [List.pairwise_cons] at h
    by_cases e : p.1 = k
    · refine .inr ⟨p, List.mem_cons_self, e, ?_⟩
      rw [List.filter_cons_of_pos (by simpa using e)]
      have : (C.filter fun q => q.1 = k) = [] := by
        rw [List.filter_eq_nil_iff]
        intro q hq
        have := (h.1 q hq).1
        simp only [decide_eq_true_eq]
        omega
      rw [this]
    · rw [List.filter_cons_of_neg (by simpa using e)]
      rcases filter_one h.2 with q | ⟨q, h1, h2, h3⟩
      · exact .inl q
      · exact .inr ⟨q, List.mem_cons_of_mem _ h1, h2, h3⟩
theorem at_most {C : List (Nat × Nat)} (h : C.Pairwise (fun p q => p.1 < q.1 ∧ p.2 < q.2)) {p q : Nat × Nat} (hp : p ∈ C) (hq : q ∈ C) (hlt : p.1 < q.1) : p.2 < q.2 := by
  induction C with
  | nil => cases hp
  | cons r C ih =>
    rw [List.pairwise_cons] at h
    rcases List.mem_cons.mp hp with e1 | e1
    · subst e1
      rcases List.mem_cons.mp hq with e2 | e2
      · subst e2; omega
      · exact (h.1 q e2).2
    · rcases List.mem_cons.mp hq with e2 | e2
      · subst e2
        have := (h.1 p e1).1
        omega
      · exact ih h.2 e1 e2
theorem tri_cons (p : Nat × Nat) (C1 C2 : List (Nat × Nat)) : tri (p :: C1) C2 = (C2.filter fun q => q.1 = p.1).map (fun q => (p.1, p.2, q.2)) ++ tri C1 C2 := by
  unfold tri
  rw [List.flatMap_cons]
theorem tri_tris {base left right : List α} {C2 : List (Nat × Nat)} (h2 : C2.Pairwise (fun p q => p.1 < q.1 ∧ p.2 < q.2)) (k2 : ∀ q ∈ C2, ∃ x, base[q.1]? = some x ∧ right[q.2]? = some x) :
    ∀ (C1 : List (Nat × Nat)) (u : Nat × Nat × Nat), C1.Pairwise (fun p q => p.1 < q.1 ∧ p.2 < q.2) → (∀ q ∈ C1, ∃ x, base[q.1]? = some x ∧ left[q.2]? = some x) → (∀ p ∈ C1, u.1 ≤ p.1 ∧ u.2.1 ≤ p.2) → (∀ q ∈ C2, u.1 ≤ q.1 → u.2.2 ≤ q.2) → Tris base left right (tri C1 C2) u
  | [], _, _, _, _, _ => trivial
  | p :: C1, u, h1, k1, hu, hv => by
    rw [List.pairwise_cons] at h1
    rw [tri_cons]
    obtain ⟨x, x1, x2⟩ := k1 p List.mem_cons_self
    have u1 := hu p List.mem_cons_self
    rcases filter_one (k := p.1) h2 with e | ⟨q, q1, q2, e⟩
    · rw [e, List.map_nil, List.nil_append]
      exact tri_tris h2 k2 C1 u h1.2 (fun q hq => k1 q (List.mem_cons_of_mem _ hq)) (fun q hq => hu q (List.mem_cons_of_mem _ hq)) hv
    · rw [e]
      obtain ⟨y, y1, y2⟩ := k2 q q1
      refine ⟨⟨⟨u1.1, u1.2, hv q q1 (by omega)⟩, ⟨(List.getElem?_eq_some_iff.mp x1).1, (List.getElem?_eq_some_iff.mp x2).1, (List.getElem?_eq_some_iff.mp y2).1⟩, x1.trans x2.symm, ?_⟩, ?_⟩
      · show base[p.1]? = right[q.2]?
        rw [← q2, y1, y2]
      · refine tri_tris h2 k2 C1 (nx (p.1, p.2, q.2)) h1.2 (fun q hq => k1 q (List.mem_cons_of_mem _ hq)) (fun r hr => ?_) fun r hr hle => ?_
        · have := h1.1 r hr
          show p.1 + 1 ≤ r.1 ∧ p.2 + 1 ≤ r.2
          omega
        · have hle : p.1 + 1 ≤ r.1 := hle
          have := at_most h2 q1 hr (by omega)
          show q.2 + 1 ≤ r.2
          omega
theorem fmap_congr {β γ : Type} {f g : β → Option γ} : ∀ {l : List β}, (∀ a ∈ l, f a = g a) → l.filterMap f = l.filterMap g
  | [], _ => rfl
  | a :: l, h => by
    rw [List.filterMap_cons, List.filterMap_cons, h a List.mem_cons_self, fmap_congr fun b hb => h b (List.mem_cons_of_mem _ hb)]
/-- a walk over all numbers finds what stands at some of them -/
theorem range_some {β : Type} (f : Nat → Option β) : ∀ (n a : Nat) (ks : List Nat), ks.Pairwise (· < ·) → (∀ k ∈ ks, a ≤ k ∧ k < a + n) → (∀ k, k ∉ ks → f k = none) → (List.range' a n).filterMap f = ks.filterMap f
  | 0, a, [], _, _, _ => rfl
  | 0, a, k :: ks, _, h, _ => by have := h k List.mem_cons_self; omega
  | n + 1, a, ks, hp, h, hf => by
    rw [List.range'_succ]
    by_cases e : ∃ r, ks = a :: r
    · obtain ⟨r, rfl⟩ := e
      rw [List.pairwise_cons] at hp
      have key : (List.range' (a + 1) n).filterMap f = r.filterMap f := by
        have ih := range_some (fun k => if k ∈ r then f k else none) n (a + 1) r hp.2 (fun k hk => by
          have h1 := hp.1 k hk
          have h2 := h k (List.mem_cons_of_mem _ hk)
          omega) fun k hk => if_neg hk
        have c1 : (List.range' (a + 1) n).filterMap f = (List.range' (a + 1) n).filterMap (fun k => if k ∈ r then f k else none) := by
          apply fmap_congr
          intro k hk
          have := List.mem_range'_1.mp hk
          by_cases m : k ∈ r
          · rw [if_pos m]
          · rw [if_neg m]
            refine hf k fun q => ?_
            rcases List.mem_cons.mp q with q | q
            · omega
            · exact m q
        have c2 : r.filterMap f = r.filterMap (fun k => if k ∈ r then f k else none) := by
          apply fmap_congr
          intro k hk
          rw [if_pos hk]
        rw [c1, ih, ← c2]
      rw [List.filterMap_cons, List.filterMap_cons, key]
    · have na : a ∉ ks := fun m => by
        cases ks with
        | nil => cases m
        | cons b r =>
          rcases List.mem_cons.mp m with q | q
          · exact e ⟨r, by rw [q]⟩
          · have := (List.pairwise_cons.mp hp).1 a q
            have := (h b List.mem_cons_self).1
            omega
      rw [List.filterMap_cons, hf a na]
      exact range_some f n (a + 1) ks hp (fun k hk => by
        have := h k hk
        have : k ≠ a := fun z => na (z ▸ hk)
        omega) hf
/-- .. as the program looks them up -/
def look2 (C : List (Nat × Nat)) (k : Nat) : Option Nat := (C.find? fun q => q.1 = k).map (·.2)
theorem look2_filter {C : List (Nat × Nat)} (h : C.Pairwise (fun p q => p.1 < q.1 ∧ p.2 < q.2)) (k : Nat) : (C.filter fun q => q.1 = k).map (·.2) = (look2 C k).toList := by
  unfold look2
  induction C with
  | nil => rfl
  | cons p C ih =>
    have h0 := h
    rw [List.pairwise_cons] at h
    by_cases e : p.1 = k
    · rcases filter_one (k := k) h0 with q | ⟨q, q1, q2, q3⟩
      · rw [List.filter_cons_of_pos (by simpa using e)] at q; cases q
      · rw [q3, List.find?_cons_of_pos (by simpa using e)]
        rw [List.filter_cons_of_pos (by simpa using e)] at q3
        injection q3 with q4 _
        rw [q4]; rfl
    · rw [List.filter_cons_of_neg (by simpa using e), List.find?_cons_of_neg (by simpa using e)]
      exact ih h.2
def triF (C1 C2 : List (Nat × Nat)) (k : Nat) : Option (Nat × Nat × Nat) := match look2 C1 k, look2 C2 k with
  | some i, some j => some (k, i, j)
  | _, _ => none
theorem tri_range {C1 C2 : List (Nat × Nat)} {n : Nat} (h1 : C1.Pairwise (fun p q => p.1 < q.1 ∧ p.2 < q.2)) (h2 : C2.Pairwise (fun p q => p.1 < q.1 ∧ p.2 < q.2)) (hn : ∀ p ∈ C1, p.1 < n) : (List.range n).filterMap (triF C1 C2) = tri C1 C2 := by
  rw [List.range_eq_range', range_some (triF C1 C2) n 0 (C1.map (·.1)) ?_ ?_ ?_]
  · have key : ∀ D : List (Nat × Nat), (∀ p ∈ D, look2 C1 p.1 = some p.2) → (D.map (·.1)).filterMap (triF C1 C2) = tri D C2 := by
      intro D
      induction D with
      | nil => intro _; rfl
      | cons p D ih =>
        intro hD
        rw [tri_cons, List.map_cons, List.filterMap_cons, ih fun q hq => hD q (List.mem_cons_of_mem _ hq)]
        have e := look2_filter h2 p.1
        have e2 : (C2.filter fun q => q.1 = p.1).map (fun q => (p.1, p.2, q.2)) = ((C2.filter fun q => q.1 = p.1).map (·.2)).map (fun j => (p.1, p.2, j)) := by rw [List.map_map]; rfl
        rw [e2, e]
        unfold triF
        rw [hD p List.mem_cons_self]
        cases look2 C2 p.1 <;> rfl
    refine key C1 fun p hp => ?_
    have e := look2_filter h1 p.1
    rcases filter_one (k := p.1) h1 with q | ⟨q, q1, q2, q3⟩
    · have : p ∈ C1.filter fun q => q.1 = p.1 := List.mem_filter.mpr ⟨hp, by simp⟩
      rw [q] at this; cases this
    · have : p ∈ C1.filter fun q => q.1 = p.1 := List.mem_filter.mpr ⟨hp, by simp⟩
      rw [q3, List.mem_singleton] at this
      subst this
      rw [q3] at e
      cases z : look2 C1 p.1 with
      | none => rw [z] at e; cases e
      | some i =>
        rw [z] at e
        simp at e
        rw [e]
  · rw [List.pairwise_map]
    exact h1.imp fun h => h.1
  · intro k hk
    obtain ⟨p, hp, rfl⟩ := List.mem_map.mp hk
    have := hn p hp
    omega
  · intro k hk
    unfold triF look2
    rw [List.find?_eq_none.mpr fun q hq => by
      simp only [decide_eq_true_eq]
      intro z
      exact hk (List.mem_map.mpr ⟨q, hq, z⟩)]
    rfl
theorem tri_len {C1 C2 : List (Nat × Nat)} (h2 : C2.Pairwise (fun p q => p.1 < q.1 ∧ p.2 < q.2)) : (tri C1 C2).length ≤ C1.length := by
  induction C1 with
  | nil => exact Nat.le_refl _
  | cons p C1 ih =>
    rw [tri_cons, List.length_append, List.length_map, List.length_cons]
    rcases filter_one (k := p.1) h2 with q | ⟨q, q1, q2, q3⟩
    · rw [q]; simp; omega
    · rw [q3]; simp; omega
end TM.Pt
namespace TM.K15
open PySem PySem.Spec L2 TM TM.Ln
open PyProof.Rows hiding St
def topS (i : Nat) : Stmt := PySem.Challenge.pw_treemerge_k15_parts_of_a_merge.main.body.getD i (.Pass ⟨0, 0, 0, 0⟩)

abbrev s_is_lines : Stmt := topS 6
theorem sc_is_lines : FnScope ["thing", "line"] ["thing"] (defScope s_is_lines) := ⟨rfl, rfl, rfl, by decide +kernel, rfl, by decide +kernel, by decide +kernel⟩
theorem b_is_lines {Z : En} {k : Nat} {X : Cx} {W : WX} {ent : Ent}  (n_len : Z.mg "len" = none) (n_tuple : Z.mg "tuple" = none) (n_isinstance : Z.mg "isinstance" = none) (n_str : Z.mg "str" = none) (n_all : Z.mg "all" = none) (g_MOST_LINES : ∃ u, Z.mg "MOST_LINES" = some u ∧ RelV (.int 60) u) (g_MOST_SIGNS : ∃ u, Z.mg "MOST_SIGNS" = some u ∧ RelV (.int 80) u) (c : Dx Z ["thing", "line"] (defScope s_is_lines) k X W) : PSs X (defBody s_is_lines) (rdS X.gb W ent m_is_lines) := by
  have c0 := c.toBx
  exact (semB_cons (semS_if ((semW_or (semT_not (semT_tru (ox (sem_bi c0 call_isi ok_isi (by decide +kernel) n_isinstance (by decide +kernel) (opc (ov c0 0 (by decide +kernel)) (opc (ox (xty c0 (by decide +kernel) n_tuple (by decide +kernel))) opn)))) (fun _ => rfl))) (semW_one (semT_cmp op_gtD ok_ord (ox (sem_bi c0 c_len ok_len (by decide +kernel) n_len (by decide +kernel) (opc (ov c0 0 (by decide +kernel)) opn))) (ox (xg c0 (by decide +kernel) g_MOST_LINES (fun _ _ => .int _))) (by rfl))))).pt (semB_cons (semS_ret (semW_val xb)) semB_nil) semB_nil) (semB_cons (semS_ret (semW_val (sem_bi c0 (cr_all c0.calm) ok_all (by decide +kernel) n_all (by decide +kernel) (opc (ox (sem_frz (semW_lc c0 [("line", 1)] (by decide +kernel) (semI_val (xv c0 0 (by decide +kernel))) tg_nm rfl fun s1 H1 C1 cl1 fp1 c1 => ⟨(gn c1 1 (by decide +kernel)), .nil, fun ent => (sem_and (sem_bi c1 call_isi ok_isi (by decide +kernel) n_isinstance (by decide +kernel) (opc (ov c1 1 (by decide +kernel)) (opc (ox (xty c1 (by decide +kernel) n_str (by decide +kernel))) opn))) (sem_and (sem_cmp op_leD ok_ord (ox (sem_bi c1 c_len ok_len (by decide +kernel) n_len (by decide +kernel) (opc (ov c1 1 (by decide +kernel)) opn))) (ox (xg c1 (by decide +kernel) g_MOST_SIGNS (fun _ _ => .int _))) (by rfl)) (sem_one (sem_cmp (op_notInA (hu65 c1)) ok_notIn (ox xs) (ov c1 1 (by decide +kernel)) (by rfl)))))⟩))) opn)))) semB_nil))
theorem t_is_lines {Z : En} {k : Nat} {fa : Addr} {fd : FuncData}  (n_len : Z.mg "len" = none) (n_tuple : Z.mg "tuple" = none) (n_isinstance : Z.mg "isinstance" = none) (n_str : Z.mg "str" = none) (n_all : Z.mg "all" = none) (g_MOST_LINES : ∃ u, Z.mg "MOST_LINES" = some u ∧ RelV (.int 60) u) (g_MOST_SIGNS : ∃ u, Z.mg "MOST_SIGNS" = some u ∧ RelV (.int 80) u) (F : L2.Fun Z.K "is_lines" "is_lines" s_is_lines fa fd) (g : Z.mg "is_lines" = some (.ref fa)) : FnAt Z.P Z.w Z.K Z.mg Z.base (k + 1) "is_lines" I_is_lines :=
  fnAt_fun F g sc_is_lines ar1 rfl (fun _ _ _ _ _ _ us h => match us, h with | [_], _ => rfl) (fun us h => match us, h with | [_], _ => rfl) fun X W ent c => b_is_lines n_len n_tuple n_isinstance n_str n_all g_MOST_LINES g_MOST_SIGNS c

abbrev s_need_lines : Stmt := topS 7
theorem sc_need_lines : FnScope ["thing"] ["thing"] (defScope s_need_lines) := ⟨rfl, rfl, rfl, by decide +kernel, rfl, by decide +kernel, by decide +kernel⟩
theorem b_need_lines {Z : En} {k : Nat} {X : Cx} {W : WX} {ent : Ent} (a_is_lines : FnAt Z.P Z.w Z.K Z.mg Z.base k "is_lines" I_is_lines)   (c : Dx Z ["thing"] (defScope s_need_lines) k X W) : PSs X (defBody s_need_lines) (rdS X.gb W ent m_need_lines) := by
  have c0 := c.toBx
  exact (semB_cons (semS_if (semT_not (semT_tru (ox (sem_frz (xcall c0 a_is_lines (by decide +kernel) (List.mem_singleton.mpr rfl) (opc (ox (xv c0 0 (by decide +kernel))) opn) .nil))) (fun _ => rfl))) (semB_cons semS_no semB_nil) semB_nil) semB_nil)
theorem t_need_lines {Z : En} {k : Nat} {fa : Addr} {fd : FuncData} (a_is_lines : FnAt Z.P Z.w Z.K Z.mg Z.base k "is_lines" I_is_lines)   (F : L2.Fun Z.K "need_lines" "need_lines" s_need_lines fa fd) (g : Z.mg "need_lines" = some (.ref fa)) : FnAt Z.P Z.w Z.K Z.mg Z.base (k + 1) "need_lines" I_need_lines :=
  fnAt_fun F g sc_need_lines ar1 rfl (fun _ _ _ _ _ _ us h => match us, h with | [_], _ => rfl) (fun us h => match us, h with | [_], _ => rfl) fun X W ent c => b_need_lines a_is_lines c

abbrev s_longest : Stmt := topS 8
theorem sc_longest : FnScope ["one", "other", "rows", "i", "j", "line"] ["one", "other"] (defScope s_longest) := ⟨rfl, rfl, rfl, by decide +kernel, rfl, by decide +kernel, by decide +kernel⟩
theorem b_longest {Z : En} {k : Nat} {X : Cx} {W : WX} {ent : Ent}  (n_len : Z.mg "len" = none) (n_range : Z.mg "range" = none) (n_max : Z.mg "max" = none)  (c : Dx Z ["one", "other", "rows", "i", "j", "line"] (defScope s_longest) k X W) : PSs X (defBody s_longest) (rdS X.gb W ent m_longest) := by
  have c0 := c.toBx
  exact (semB_cons (semS_setLc c0 (by decide +kernel) (sw_lc (i := 2) c0 (by decide +kernel) (by decide +kernel)) [("line", 5)] (by decide +kernel) (semI_range1 (Gl.of c0 (by decide +kernel)) (mgN c0 n_range) (opc (ox (sem_bin op_addD fr_add.ok (ox (sem_bi c0 c_len ok_len (by decide +kernel) n_len (by decide +kernel) (opc (ov c0 0 (by decide +kernel)) opn))) (ox xi))) opn) rfl) tg_nm rfl fun s1 H1 C1 cl1 fp1 c1 => ⟨(gn c1 5 (by decide +kernel)), .nil, fun ent => (sem_pub (semW_bin op_mulD fr_mul (ox (sem_frz (semW_lst (pa_ops (opc (ox xi) opn))))) (ox (sem_bin op_addD fr_add.ok (ox (sem_bi c1 c_len ok_len (by decide +kernel) n_len (by decide +kernel) (opc (ov c1 1 (by decide +kernel)) opn))) (ox xi)))))⟩) (semB_cons (sfor c (semI_range3 (Gl.of c0 (by decide +kernel)) (mgN c0 n_range) (opc (ox (sem_bin (opI0I op_sub) ok_sub (ox (sem_bi c0 c_len ok_len (by decide +kernel) n_len (by decide +kernel) (opc (ov c0 0 (by decide +kernel)) opn))) (ox xi))) (opc (ox (sem_un un_neg ok_neg (ox xi))) (opc (ox (sem_un un_neg ok_neg (ox xi))) opn))) rfl rfl rfl) (gn c0 3 (by decide +kernel)) tg_nm (semB_cons (sfor c (semI_range3 (Gl.of c0 (by decide +kernel)) (mgN c0 n_range) (opc (ox (sem_bin (opI0I op_sub) ok_sub (ox (sem_bi c0 c_len ok_len (by decide +kernel) n_len (by decide +kernel) (opc (ov c0 1 (by decide +kernel)) opn))) (ox xi))) (opc (ox (sem_un un_neg ok_neg (ox xi))) (opc (ox (sem_un un_neg ok_neg (ox xi))) opn))) rfl rfl rfl) (gn c0 4 (by decide +kernel)) tg_nm (semB_cons (semS_if (semT_cmp (op_eqA (hu64 c0)) ok_eq (ox (sem_ix (ix_all (hu65 c0)) ok_ix (ov c0 0 (by decide +kernel)) (ov c0 3 (by decide +kernel)) (by intro _ _; rfl))) (ox (sem_ix (ix_all (hu65 c0)) ok_ix (ov c0 1 (by decide +kernel)) (ov c0 4 (by decide +kernel)) (by intro _ _; rfl))) (by rfl)) (semB_cons (semS_putS (sem_ix (ix_all (hu65 c0)) ok_ix (ov c0 2 (by decide +kernel)) (ov c0 3 (by decide +kernel)) (by intro _ _; rfl)) (xv c0 4 (by decide +kernel)) (sem_bin op_addD fr_add.ok (ox (sem_ixL (sem_ix (ix_all (hu65 c0)) ok_ix (ov c0 2 (by decide +kernel)) (ox (sem_bin op_addD fr_add.ok (ov c0 3 (by decide +kernel)) (ox xi))) (by intro _ _; rfl)) (sem_bin op_addD fr_add.ok (ov c0 4 (by decide +kernel)) (ox xi)))) (ox xi))) semB_nil) (semB_cons (semS_putS (sem_ix (ix_all (hu65 c0)) ok_ix (ov c0 2 (by decide +kernel)) (ov c0 3 (by decide +kernel)) (by intro _ _; rfl)) (xv c0 4 (by decide +kernel)) (sem_bi c0 (call_max2 c0.calm) ok_max (by decide +kernel) n_max (by decide +kernel) (opc (ox (sem_ixL (sem_ix (ix_all (hu65 c0)) ok_ix (ov c0 2 (by decide +kernel)) (ox (sem_bin op_addD fr_add.ok (ov c0 3 (by decide +kernel)) (ox xi))) (by intro _ _; rfl)) (xv c0 4 (by decide +kernel)))) (opc (ox (sem_ixL (sem_ix (ix_all (hu65 c0)) ok_ix (ov c0 2 (by decide +kernel)) (ov c0 3 (by decide +kernel)) (by intro _ _; rfl)) (sem_bin op_addD fr_add.ok (ov c0 4 (by decide +kernel)) (ox xi)))) opn)))) semB_nil)) semB_nil)) semB_nil)) (semB_cons (semS_ret (xmove c0 2 (by decide +kernel))) semB_nil)))
theorem t_longest {Z : En} {k : Nat} {fa : Addr} {fd : FuncData}  (n_len : Z.mg "len" = none) (n_range : Z.mg "range" = none) (n_max : Z.mg "max" = none)  (F : L2.Fun Z.K "longest" "longest" s_longest fa fd) (g : Z.mg "longest" = some (.ref fa)) : FnAt Z.P Z.w Z.K Z.mg Z.base (k + 1) "longest" I_longest :=
  fnAt_fun F g sc_longest ar2 rfl (fun _ _ _ _ _ _ us h => match us, h with | [_, _], _ => rfl) (fun us h => match us, h with | [_, _], _ => rfl) fun X W ent c => b_longest n_len n_range n_max c

abbrev s_alike : Stmt := topS 9
theorem sc_alike : FnScope ["one", "other", "i", "line", "j", "word"] ["one", "other"] (defScope s_alike) := ⟨rfl, rfl, rfl, by decide +kernel, rfl, by decide +kernel, by decide +kernel⟩
theorem b_alike {Z : En} {k : Nat} {X : Cx} {W : WX} {ent : Ent}  (n_enumerate : Z.mg "enumerate" = none)  (c : Dx Z ["one", "other", "i", "line", "j", "word"] (defScope s_alike) k X W) : PSs X (defBody s_alike) (rdS X.gb W ent m_alike) := by
  have c0 := c.toBx
  exact (semB_cons (semS_ret (semW_lc2 c0 [("i", 2), ("line", 3), ("j", 4), ("word", 5)] [4, 5] (by decide +kernel) (semI_enumT c0 (by decide +kernel) n_enumerate (ov c0 0 (by decide +kernel))) (tg_tp (tgs_cons tg_nm (tgs_cons tg_nm tgs_nil))) rfl (tg_tp (tgs_cons tg_nm (tgs_cons tg_nm tgs_nil))) rfl rfl fun s1 H1 C1 cl1 fp1 c1 => ⟨⟨(pg_tup c1.calm (pgs_cons (gn c1 2 (by decide +kernel)) (pgs_cons (gn c1 3 (by decide +kernel)) pgs_nil))), .nil, fun ent => (sem_tup (pa_ops (opc (ox (xv c1 2 (by decide +kernel))) (opc (ox (xv c1 4 (by decide +kernel))) opn))))⟩, (pg_tup c1.calm (pgs_cons (gn c1 4 (by decide +kernel)) (pgs_cons (gn c1 5 (by decide +kernel)) pgs_nil))), (.one fun ent => (semT_cmp (op_eqA (hu64 c1)) ok_eq (ov c1 3 (by decide +kernel)) (ov c1 5 (by decide +kernel)) (by rfl))), fun ent => (semI_enumT c1 (by decide +kernel) n_enumerate (ov c1 1 (by decide +kernel)))⟩)) semB_nil)
theorem t_alike {Z : En} {k : Nat} {fa : Addr} {fd : FuncData}  (n_enumerate : Z.mg "enumerate" = none)  (F : L2.Fun Z.K "alike" "alike" s_alike fa fd) (g : Z.mg "alike" = some (.ref fa)) : FnAt Z.P Z.w Z.K Z.mg Z.base (k + 1) "alike" I_alike :=
  fnAt_fun F g sc_alike ar2 rfl (fun _ _ _ _ _ _ us h => match us, h with | [_, _], _ => rfl) (fun us h => match us, h with | [_, _], _ => rfl) fun X W ent c => b_alike n_enumerate c

abbrev s_row_of : Stmt := topS 10
theorem sc_row_of : FnScope ["one", "other", "rows", "found", "i", "j", "here", "there"] ["one", "other"] (defScope s_row_of) := ⟨rfl, rfl, rfl, by decide +kernel, rfl, by decide +kernel, by decide +kernel⟩
theorem b_row_of {Z : En} {k : Nat} {X : Cx} {W : WX} {ent : Ent} (a_longest : FnAt Z.P Z.w Z.K Z.mg Z.base k "longest" I_longest) (a_alike : FnAt Z.P Z.w Z.K Z.mg Z.base k "alike" I_alike)   (c : Dx Z ["one", "other", "rows", "found", "i", "j", "here", "there"] (defScope s_row_of) k X W) : PSs X (defBody s_row_of) (rdS X.gb W ent m_row_of) := by
  have c0 := c.toBx
  exact (semB_cons (sparT c0 (pgs_c (i := 2) c0 (by decide +kernel) (pgs_c (i := 3) c0 (by decide +kernel) (pgs_c (i := 4) c0 (by decide +kernel) (pgs_c (i := 5) c0 (by decide +kernel) pgs_nil)))) (wxc (fun ent => (xcall c0 a_longest (by decide +kernel) (List.mem_singleton.mpr rfl) (opc (ox (xv c0 0 (by decide +kernel))) (opc (ox (xv c0 1 (by decide +kernel))) opn)) .nil)) (wxc (fun ent => (semW_lst (pa_ops opn))) (wxc (fun ent => (semW_val xi)) (wxc (fun ent => (semW_val xi)) wxn)))) (by decide +kernel)) (semB_cons (sfor c (semI_val (sem_frz (xcall c0 a_alike (by decide +kernel) (List.mem_singleton.mpr rfl) (opc (ox (xv c0 0 (by decide +kernel))) (opc (ox (xv c0 1 (by decide +kernel))) opn)) .nil))) (pg_tup c0.calm (pgs_cons (gn c0 6 (by decide +kernel)) (pgs_cons (gn c0 7 (by decide +kernel)) pgs_nil))) (tg_tp (tgs_cons tg_nm (tgs_cons tg_nm tgs_nil))) (semB_cons (semS_if ((semW_and (semT_cmp op_geD ok_ord (ov c0 6 (by decide +kernel)) (ov c0 4 (by decide +kernel)) (by rfl)) (semW_and (semT_cmp op_geD ok_ord (ov c0 7 (by decide +kernel)) (ov c0 5 (by decide +kernel)) (by rfl)) (semW_one (semT_cmp (op_eqA (hu64 c0)) ok_eq (ox (sem_bin op_addD fr_add.ok (ox (sem_ixL (sem_ix (ix_all (hu65 c0)) ok_ix (ov c0 2 (by decide +kernel)) (ox (sem_bin op_addD fr_add.ok (ov c0 6 (by decide +kernel)) (ox xi))) (by intro _ _; rfl)) (sem_bin op_addD fr_add.ok (ov c0 7 (by decide +kernel)) (ox xi)))) (ox xi))) (ox (sem_ixL (sem_ix (ix_all (hu65 c0)) ok_ix (ov c0 2 (by decide +kernel)) (ov c0 4 (by decide +kernel)) (by intro _ _; rfl)) (xv c0 5 (by decide +kernel)))) (by rfl)))))).pt (semB_cons (semS_drop (sem_lm c0 PySem.F.slot_list_append PySem.F.type_list_append mt_append ok_append (by decide +kernel) (opc (ox (sem_tup (pa_ops (opc (ox (xv c0 6 (by decide +kernel))) (opc (ox (xv c0 7 (by decide +kernel))) opn))))) opn)) (by rfl)) (semB_cons (spar2 c0 4 5 (by decide) (by decide +kernel) (by decide +kernel) (wxc (fun ent => (semW_bin op_addD fr_add (ov c0 6 (by decide +kernel)) (ox xi))) (wxc (fun ent => (semW_bin op_addD fr_add (ov c0 7 (by decide +kernel)) (ox xi))) wxn)) (by decide +kernel)) semB_nil)) semB_nil) semB_nil)) (semB_cons (semS_ret (xmove c0 3 (by decide +kernel))) semB_nil)))
theorem t_row_of {Z : En} {k : Nat} {fa : Addr} {fd : FuncData} (a_longest : FnAt Z.P Z.w Z.K Z.mg Z.base k "longest" I_longest) (a_alike : FnAt Z.P Z.w Z.K Z.mg Z.base k "alike" I_alike)   (F : L2.Fun Z.K "row_of" "row_of" s_row_of fa fd) (g : Z.mg "row_of" = some (.ref fa)) : FnAt Z.P Z.w Z.K Z.mg Z.base (k + 1) "row_of" I_row_of :=
  fnAt_fun F g sc_row_of ar2 rfl (fun _ _ _ _ _ _ us h => match us, h with | [_, _], _ => rfl) (fun us h => match us, h with | [_, _], _ => rfl) fun X W ent c => b_row_of a_longest a_alike c

abbrev s_parts_by : Stmt := topS 11
theorem sc_parts_by : FnScope ["base", "left", "right", "stays", "mine", "yours", "found", "k", "i", "j", "region", "a", "b", "c"] ["base", "left", "right"] (defScope s_parts_by) := ⟨rfl, rfl, rfl, by decide +kernel, rfl, by decide +kernel, by decide +kernel⟩
def m_parts_by_0 : Tx := tAndB (tBool (bPrim fIn [.sl 7, .sl 4])) (tBool (bPrim fIn [.sl 7, .sl 5]))
def m_parts_by_1 : Ex := bTup [bVar 7, bPrim fIx [.sl 4, .sl 7], bPrim fIx [.sl 5, .sl 7]]
def m_parts_by_2 : Sm := sSeq (sSet 10 (wVal (bTup [bPrim fSl11 [.sl 0, mInt (bVar 11), mInt (bVar 7)], bPrim fSl11 [.sl 1, mInt (bVar 12), mInt (bVar 8)], bPrim fSl11 [.sl 2, mInt (bVar 13), mInt (bVar 9)]]))) (sSeq (sIf (tBool (bPrim fNe [.sl 10, .ex (bTup [bTup [], bTup [], bTup []])])) (sSeq (sDrop (mMut 6 mfAppend [bPrim fAdd [.ex (bTup [bC (.str "region")]), .sl 10]])) (sOk .next)) (sOk .next)) (sSeq (sIf (tAndB (tBool (bPrim fLt [.sl 7, .ex (bPrim fLen [.sl 0])])) (tAndB (tBool (bPrim fNe [.sl 6, .ex (eFrz (wLst []))])) (tBool (bPrim fEq [.ex (bPrim fIx [.ex (bPrim fIx [.sl 6, .ex (bPrim negF [.ex (bC (.int 1))])]), .ex (bC (.int 0))]), .ex (bC (.str "stay"))])))) (sSeq (sPutL 6 (bPrim negF [.ex (bC (.int 1))]) (bTup [bC (.str "stay"), bPrim fAdd [.ex (bPrim fIx [.ex (bPrim fIx [.sl 6, .ex (bPrim negF [.ex (bC (.int 1))])]), .ex (bC (.int 1))]), .ex (bPrim fSl11 [.sl 0, mInt (bVar 7), mInt (bPrim fAdd [.sl 7, .ex (bC (.int 1))])])]])) (sOk .next)) (sSeq (sIf (tBool (bPrim fLt [.sl 7, .ex (bPrim fLen [.sl 0])])) (sSeq (sDrop (mMut 6 mfAppend [bTup [bC (.str "stay"), bPrim fSl11 [.sl 0, mInt (bVar 7), mInt (bPrim fAdd [.sl 7, .ex (bC (.int 1))])]]])) (sOk .next)) (sOk .next)) (sOk .next))) (sSeq (sPar [11, 12, 13] [wPrim fAdd [.sl 7, .ex (bC (.int 1))], wPrim fAdd [.sl 8, .ex (bC (.int 1))], wPrim fAdd [.sl 9, .ex (bC (.int 1))]]) (sOk .next))))
def m_parts_by : Sm := sSeq (sPar [4, 5] [wVal (bPrim fDict [.ex (eFrz (wCall F_row_of [] ar2 [bVar 0, bVar 1] []))]), wVal (bPrim fDict [.ex (eFrz (wCall F_row_of [] ar2 [bVar 0, bVar 2] []))])]) (sSeq (sSet 3 (wComp (iRange range1 [.ex (bPrim fLen [.sl 0])]) [7] (.nm 7) (m_parts_by_0) (m_parts_by_1))) (sSeq (sParL [6] (.tp [.nm 11, .nm 12, .nm 13]) [wLst []] (bTup [bC (.int 0), bC (.int 0), bC (.int 0)])) (sSeq (sFor (iVal (bPrim fAdd [.sl 3, .ex (eFrz (wLst [bTup [bPrim fLen [.sl 0], bPrim fLen [.sl 1], bPrim fLen [.sl 2]]]))])) (.tp [.nm 7, .nm 8, .nm 9]) (m_parts_by_2)) (sSeq (sRet (wMove 6)) (sOk .next)))))
def F_parts_by : Fsem := fsem 14 m_parts_by
abbrev I_parts_by : FnI := ⟨["base", "left", "right"], F_parts_by, [], [(3, [], ar3)]⟩
theorem b_parts_by {Z : En} {k : Nat} {X : Cx} {W : WX} {ent : Ent} (a_row_of : FnAt Z.P Z.w Z.K Z.mg Z.base k "row_of" I_row_of) (n_dict : Z.mg "dict" = none) (n_len : Z.mg "len" = none) (n_range : Z.mg "range" = none)  (c : Dx Z ["base", "left", "right", "stays", "mine", "yours", "found", "k", "i", "j", "region", "a", "b", "c"] (defScope s_parts_by) k X W) : PSs X (defBody s_parts_by) (rdS X.gb W ent m_parts_by) := by
  have c0 := c.toBx
  exact (semB_cons (sparT c0 (pgs_c (i := 4) c0 (by decide +kernel) (pgs_c (i := 5) c0 (by decide +kernel) pgs_nil)) (wxc (fun ent => (semW_val (sem_bt c0 (call_dictP c0.calm) ok_dict (by decide +kernel) n_dict (by decide +kernel) (opc (ox (sem_frz (xcall c0 a_row_of (by decide +kernel) (List.mem_singleton.mpr rfl) (opc (ox (xv c0 0 (by decide +kernel))) (opc (ox (xv c0 1 (by decide +kernel))) opn)) .nil))) opn)))) (wxc (fun ent => (semW_val (sem_bt c0 (call_dictP c0.calm) ok_dict (by decide +kernel) n_dict (by decide +kernel) (opc (ox (sem_frz (xcall c0 a_row_of (by decide +kernel) (List.mem_singleton.mpr rfl) (opc (ox (xv c0 0 (by decide +kernel))) (opc (ox (xv c0 2 (by decide +kernel))) opn)) .nil))) opn)))) wxn)) (by decide +kernel)) (semB_cons (semS_setLc c0 (by decide +kernel) (sw_lc (i := 3) c0 (by decide +kernel) (by decide +kernel)) [("k", 7)] (by decide +kernel) (semI_range1 (Gl.of c0 (by decide +kernel)) (mgN c0 n_range) (opc (ox (sem_bi c0 c_len ok_len (by decide +kernel) n_len (by decide +kernel) (opc (ov c0 0 (by decide +kernel)) opn))) opn) rfl) tg_nm rfl fun s1 H1 C1 cl1 fp1 c1 => ⟨(gn c1 7 (by decide +kernel)), (.one fun ent => ((semW_and (semT_cmp (op_inA (hu65 c1)) ok_in (ov c1 7 (by decide +kernel)) (ov c1 4 (by decide +kernel)) (by rfl)) (semW_one (semT_cmp (op_inA (hu65 c1)) ok_in (ov c1 7 (by decide +kernel)) (ov c1 5 (by decide +kernel)) (by rfl))))).pt), fun ent => (sem_tup (pa_ops (opc (ox (xv c1 7 (by decide +kernel))) (opc (ox (sem_ix (ix_all (hu65 c1)) ok_ix (ov c1 4 (by decide +kernel)) (ov c1 7 (by decide +kernel)) (by intro _ _; rfl))) (opc (ox (sem_ix (ix_all (hu65 c1)) ok_ix (ov c1 5 (by decide +kernel)) (ov c1 7 (by decide +kernel)) (by intro _ _; rfl))) opn)))))⟩) (semB_cons (sparL c0 (pgs_l (i := 6) c0 (by decide +kernel) (pgs_cons (pg_tup c0.calm (pgs_cons (gn c0 11 (by decide +kernel)) (pgs_cons (gn c0 12 (by decide +kernel)) (pgs_cons (gn c0 13 (by decide +kernel)) pgs_nil)))) pgs_nil)) (tg_tp (tgs_cons tg_nm (tgs_cons tg_nm (tgs_cons tg_nm tgs_nil)))) (wxc (fun ent => (semW_lst (pa_ops opn))) (wxc (fun ent => semW_val (sem_tup (pa_ops (opc (ox xi) (opc (ox xi) (opc (ox xi) opn)))))) wxn)) (by decide +kernel)) (semB_cons (sfor c (semI_val (sem_bin op_addD fr_add.ok (ov c0 3 (by decide +kernel)) (ox (sem_frz (semW_lst (pa_ops (opc (ox (sem_tup (pa_ops (opc (ox (sem_bi c0 c_len ok_len (by decide +kernel) n_len (by decide +kernel) (opc (ov c0 0 (by decide +kernel)) opn))) (opc (ox (sem_bi c0 c_len ok_len (by decide +kernel) n_len (by decide +kernel) (opc (ov c0 1 (by decide +kernel)) opn))) (opc (ox (sem_bi c0 c_len ok_len (by decide +kernel) n_len (by decide +kernel) (opc (ov c0 2 (by decide +kernel)) opn))) opn)))))) opn))))))) (pg_tup c0.calm (pgs_cons (gn c0 7 (by decide +kernel)) (pgs_cons (gn c0 8 (by decide +kernel)) (pgs_cons (gn c0 9 (by decide +kernel)) pgs_nil)))) (tg_tp (tgs_cons tg_nm (tgs_cons tg_nm (tgs_cons tg_nm tgs_nil)))) (semB_cons (sset c0 10 (by decide +kernel) (semW_val (sem_tup (pa_ops (opc (ox (sem_sl11 (ov c0 0 (by decide +kernel)) (xv c0 11 (by decide +kernel)) (xv c0 7 (by decide +kernel)))) (opc (ox (sem_sl11 (ov c0 1 (by decide +kernel)) (xv c0 12 (by decide +kernel)) (xv c0 8 (by decide +kernel)))) (opc (ox (sem_sl11 (ov c0 2 (by decide +kernel)) (xv c0 13 (by decide +kernel)) (xv c0 9 (by decide +kernel)))) opn))))))) (semB_cons (semS_if (semT_cmp (op_neA (hu64 c0)) ok_ne (ov c0 10 (by decide +kernel)) (ox (sem_tup (pa_ops (opc (ox (sem_tup (pa_ops opn))) (opc (ox (sem_tup (pa_ops opn))) (opc (ox (sem_tup (pa_ops opn))) opn)))))) (by rfl)) (semB_cons (semS_drop (sem_lm c0 PySem.F.slot_list_append PySem.F.type_list_append mt_append ok_append (by decide +kernel) (opc (ox (sem_bin op_addD fr_add.ok (ox (sem_tup (pa_ops (opc (ox xs) opn)))) (ov c0 10 (by decide +kernel)))) opn)) (by rfl)) semB_nil) semB_nil) (semB_cons (semS_if ((semW_and (semT_cmp op_ltD ok_ord (ov c0 7 (by decide +kernel)) (ox (sem_bi c0 c_len ok_len (by decide +kernel) n_len (by decide +kernel) (opc (ov c0 0 (by decide +kernel)) opn))) (by rfl)) (semW_and (semT_cmp (op_neA (hu64 c0)) ok_ne (ov c0 6 (by decide +kernel)) (ox (sem_frz (semW_lst (pa_ops opn)))) (by rfl)) (semW_one (semT_cmp (op_eqA (hu64 c0)) ok_eq (ox (sem_ix (ix_all (hu65 c0)) ok_ix (ox (sem_ix (ix_all (hu65 c0)) ok_ix (ov c0 6 (by decide +kernel)) (ox (sem_un un_neg ok_neg (ox xi))) (by intro _ _; rfl))) (ox xi) (by intro _ _; rfl))) (ox xs) (by rfl)))))).pt (semB_cons (semS_putL c0 (by decide +kernel) (sem_un un_neg ok_neg (ox xi)) (sem_tup (pa_ops (opc (ox xs) (opc (ox (sem_bin op_addD fr_add.ok (ox (sem_ix (ix_all (hu65 c0)) ok_ix (ox (sem_ix (ix_all (hu65 c0)) ok_ix (ov c0 6 (by decide +kernel)) (ox (sem_un un_neg ok_neg (ox xi))) (by intro _ _; rfl))) (ox xi) (by intro _ _; rfl))) (ox (sem_sl11 (ov c0 0 (by decide +kernel)) (xv c0 7 (by decide +kernel)) (sem_bin op_addD fr_add.ok (ov c0 7 (by decide +kernel)) (ox xi)))))) opn))))) semB_nil) (semB_cons (semS_if (semT_cmp op_ltD ok_ord (ov c0 7 (by decide +kernel)) (ox (sem_bi c0 c_len ok_len (by decide +kernel) n_len (by decide +kernel) (opc (ov c0 0 (by decide +kernel)) opn))) (by rfl)) (semB_cons (semS_drop (sem_lm c0 PySem.F.slot_list_append PySem.F.type_list_append mt_append ok_append (by decide +kernel) (opc (ox (sem_tup (pa_ops (opc (ox xs) (opc (ox (sem_sl11 (ov c0 0 (by decide +kernel)) (xv c0 7 (by decide +kernel)) (sem_bin op_addD fr_add.ok (ov c0 7 (by decide +kernel)) (ox xi)))) opn))))) opn)) (by rfl)) semB_nil) semB_nil) semB_nil)) (semB_cons (spar3 c0 11 12 13 (by decide) (by decide) (by decide) (by decide +kernel) (by decide +kernel) (by decide +kernel) (wxc (fun ent => (semW_bin op_addD fr_add (ov c0 7 (by decide +kernel)) (ox xi))) (wxc (fun ent => (semW_bin op_addD fr_add (ov c0 8 (by decide +kernel)) (ox xi))) (wxc (fun ent => (semW_bin op_addD fr_add (ov c0 9 (by decide +kernel)) (ox xi))) wxn))) (by decide +kernel)) semB_nil))))) (semB_cons (semS_ret (xmove c0 6 (by decide +kernel))) semB_nil)))))
theorem t_parts_by {Z : En} {k : Nat} {fa : Addr} {fd : FuncData} (a_row_of : FnAt Z.P Z.w Z.K Z.mg Z.base k "row_of" I_row_of) (n_dict : Z.mg "dict" = none) (n_len : Z.mg "len" = none) (n_range : Z.mg "range" = none)  (F : L2.Fun Z.K "parts_by" "parts_by" s_parts_by fa fd) (g : Z.mg "parts_by" = some (.ref fa)) : FnAt Z.P Z.w Z.K Z.mg Z.base (k + 1) "parts_by" I_parts_by :=
  fnAt_fun F g sc_parts_by ar3 rfl (fun _ _ _ _ _ _ us h => match us, h with | [_, _, _], _ => rfl) (fun us h => match us, h with | [_, _, _], _ => rfl) fun X W ent c => b_parts_by a_row_of n_dict n_len n_range c

abbrev s_parts_of : Stmt := topS 12
theorem sc_parts_of : FnScope ["base", "left", "right", "some"] ["base", "left", "right"] (defScope s_parts_of) := ⟨rfl, rfl, rfl, by decide +kernel, rfl, by decide +kernel, by decide +kernel⟩
def m_parts_of_0 : Sm := sSeq (sDrop (eFrz (wCall F_need_lines [] ar1 [bVar 3] []))) (sOk .next)
def m_parts_of : Sm := sSeq (sFor (iVal (bTup [bVar 0, bVar 1, bVar 2])) (.nm 3) (m_parts_of_0)) (sSeq (sRet (wCall F_parts_by [] ar3 [bVar 0, bVar 1, bVar 2] [])) (sOk .next))
def F_parts_of : Fsem := fsem 4 m_parts_of
abbrev I_parts_of : FnI := ⟨["base", "left", "right"], F_parts_of, [], [(3, [], ar3)]⟩
theorem b_parts_of {Z : En} {k : Nat} {X : Cx} {W : WX} {ent : Ent} (a_need_lines : FnAt Z.P Z.w Z.K Z.mg Z.base k "need_lines" I_need_lines) (a_parts_by : FnAt Z.P Z.w Z.K Z.mg Z.base k "parts_by" I_parts_by)   (c : Dx Z ["base", "left", "right", "some"] (defScope s_parts_of) k X W) : PSs X (defBody s_parts_of) (rdS X.gb W ent m_parts_of) := by
  have c0 := c.toBx
  exact (semB_cons (sfor c (semI_val (sem_tup (pa_ops (opc (ox (xv c0 0 (by decide +kernel))) (opc (ox (xv c0 1 (by decide +kernel))) (opc (ox (xv c0 2 (by decide +kernel))) opn)))))) (gn c0 3 (by decide +kernel)) tg_nm (semB_cons (semS_drop (sem_frz (xcall c0 a_need_lines (by decide +kernel) (List.mem_singleton.mpr rfl) (opc (ox (xv c0 3 (by decide +kernel))) opn) .nil)) (by rfl)) semB_nil)) (semB_cons (semS_ret (xcall c0 a_parts_by (by decide +kernel) (List.mem_singleton.mpr rfl) (opc (ox (xv c0 0 (by decide +kernel))) (opc (ox (xv c0 1 (by decide +kernel))) (opc (ox (xv c0 2 (by decide +kernel))) opn))) .nil)) semB_nil))
theorem t_parts_of {Z : En} {k : Nat} {fa : Addr} {fd : FuncData} (a_need_lines : FnAt Z.P Z.w Z.K Z.mg Z.base k "need_lines" I_need_lines) (a_parts_by : FnAt Z.P Z.w Z.K Z.mg Z.base k "parts_by" I_parts_by)   (F : L2.Fun Z.K "parts_of" "parts_of" s_parts_of fa fd) (g : Z.mg "parts_of" = some (.ref fa)) : FnAt Z.P Z.w Z.K Z.mg Z.base (k + 1) "parts_of" I_parts_of :=
  fnAt_fun F g sc_parts_of ar3 rfl (fun _ _ _ _ _ _ us h => match us, h with | [_, _, _], _ => rfl) (fun us h => match us, h with | [_, _, _], _ => rfl) fun X W ent c => b_parts_of a_need_lines a_parts_by c

abbrev s_comes_of : Stmt := topS 13
theorem sc_comes_of : FnScope ["part", "word", "old", "mine", "yours", "sides"] ["part"] (defScope s_comes_of) := ⟨rfl, rfl, rfl, by decide +kernel, rfl, by decide +kernel, by decide +kernel⟩
def m_comes_of : Sm := sSeq (sStar [1, 2] 5 (bVar 0)) (sSeq (sIf (tBool (bPrim fEq [.sl 1, .ex (bC (.str "stay"))])) (sSeq (sRet (wMove 2)) (sOk .next)) (sOk .next)) (sSeq (sLst [3, 4] (bVar 5)) (sSeq (sIf (tBool (bPrim fEq [.sl 3, .sl 2])) (sSeq (sRet (wMove 4)) (sOk .next)) (sOk .next)) (sSeq (sRet (wIf (tOrB (tBool (bPrim fEq [.sl 4, .sl 2])) (tBool (bPrim fEq [.sl 3, .sl 4]))) (wVal (bVar 3)) (wVal (bC .non)))) (sOk .next)))))
def F_comes_of : Fsem := fsem 6 m_comes_of
abbrev I_comes_of : FnI := ⟨["part"], F_comes_of, [], [(1, [], ar1)]⟩
theorem b_comes_of {Z : En} {k : Nat} {X : Cx} {W : WX} {ent : Ent}    (c : Dx Z ["part", "word", "old", "mine", "yours", "sides"] (defScope s_comes_of) k X W) : PSs X (defBody s_comes_of) (rdS X.gb W ent m_comes_of) := by
  have c0 := c.toBx
  exact (semB_cons (sstar c0 (xv c0 0 (by decide +kernel)) (pgs_c (i := 1) c0 (by decide +kernel) (pgs_c (i := 2) c0 (by decide +kernel) (pgs_s (i := 5) c0 (by decide +kernel))))) (semB_cons (semS_if (semT_cmp (op_eqA (hu64 c0)) ok_eq (ov c0 1 (by decide +kernel)) (ox xs) (by rfl)) (semB_cons (semS_ret (xmove c0 2 (by decide +kernel))) semB_nil) semB_nil) (semB_cons (slstT c0 (xv c0 5 (by decide +kernel)) (pgs_c (i := 3) c0 (by decide +kernel) (pgs_c (i := 4) c0 (by decide +kernel) pgs_nil))) (semB_cons (semS_if (semT_cmp (op_eqA (hu64 c0)) ok_eq (ov c0 3 (by decide +kernel)) (ov c0 2 (by decide +kernel)) (by rfl)) (semB_cons (semS_ret (xmove c0 4 (by decide +kernel))) semB_nil) semB_nil) (semB_cons (semS_ret (semW_if ((semW_or (semT_cmp (op_eqA (hu64 c0)) ok_eq (ov c0 4 (by decide +kernel)) (ov c0 2 (by decide +kernel)) (by rfl)) (semW_one (semT_cmp (op_eqA (hu64 c0)) ok_eq (ov c0 3 (by decide +kernel)) (ov c0 4 (by decide +kernel)) (by rfl))))).pt (semW_val (xv c0 3 (by decide +kernel))) (semW_val xn))) semB_nil)))))
theorem t_comes_of {Z : En} {k : Nat} {fa : Addr} {fd : FuncData}    (F : L2.Fun Z.K "comes_of" "comes_of" s_comes_of fa fd) (g : Z.mg "comes_of" = some (.ref fa)) : FnAt Z.P Z.w Z.K Z.mg Z.base (k + 1) "comes_of" I_comes_of :=
  fnAt_fun F g sc_comes_of ar1 rfl (fun _ _ _ _ _ _ us h => match us, h with | [_], _ => rfl) (fun us h => match us, h with | [_], _ => rfl) fun X W ent c => b_comes_of  c

abbrev s_clashes : Stmt := topS 14
theorem sc_clashes : FnScope ["base", "left", "right", "part"] ["base", "left", "right"] (defScope s_clashes) := ⟨rfl, rfl, rfl, by decide +kernel, rfl, by decide +kernel, by decide +kernel⟩
def m_clashes_0 : Tx := tBool (bPrim fIsN [.ex (eFrz (wCall F_comes_of [] ar1 [bVar 3] [])), .ex (bC .non)])
def m_clashes_1 : Ex := bPrim fSl10 [.sl 3, mInt (bC (.int 1))]
def m_clashes : Sm := sSeq (sRet (wVal (bPrim fTuple [.ex (eFrz (wComp (iVal (eFrz (wCall F_parts_of [] ar3 [bVar 0, bVar 1, bVar 2] []))) [3] (.nm 3) (m_clashes_0) (m_clashes_1)))]))) (sOk .next)
def F_clashes : Fsem := fsem 4 m_clashes
abbrev I_clashes : FnI := ⟨["base", "left", "right"], F_clashes, [], [(3, [], ar3)]⟩
theorem b_clashes {Z : En} {k : Nat} {X : Cx} {W : WX} {ent : Ent} (a_parts_of : FnAt Z.P Z.w Z.K Z.mg Z.base k "parts_of" I_parts_of) (a_comes_of : FnAt Z.P Z.w Z.K Z.mg Z.base k "comes_of" I_comes_of) (n_tuple : Z.mg "tuple" = none)  (c : Dx Z ["base", "left", "right", "part"] (defScope s_clashes) k X W) : PSs X (defBody s_clashes) (rdS X.gb W ent m_clashes) := by
  have c0 := c.toBx
  exact (semB_cons (semS_ret (semW_val (sem_bt c0 call_tuple_of ok_tuple (by decide +kernel) n_tuple (by decide +kernel) (opc (ox (sem_frz (semW_lc c0 [("part", 3)] (by decide +kernel) (semI_val (sem_frz (xcall c0 a_parts_of (by decide +kernel) (List.mem_singleton.mpr rfl) (opc (ox (xv c0 0 (by decide +kernel))) (opc (ox (xv c0 1 (by decide +kernel))) (opc (ox (xv c0 2 (by decide +kernel))) opn))) .nil))) tg_nm rfl fun s1 H1 C1 cl1 fp1 c1 => ⟨(gn c1 3 (by decide +kernel)), (.one fun ent => (semT_cmp op_isN ok_isN (ox (sem_frz (xcall c1 a_comes_of (by decide +kernel) (List.mem_singleton.mpr rfl) (opc (ox (xv c1 3 (by decide +kernel))) opn) .nil))) (ox xn) (by rfl))), fun ent => (sem_sl10 (ov c1 3 (by decide +kernel)) xi)⟩))) opn)))) semB_nil)
theorem t_clashes {Z : En} {k : Nat} {fa : Addr} {fd : FuncData} (a_parts_of : FnAt Z.P Z.w Z.K Z.mg Z.base k "parts_of" I_parts_of) (a_comes_of : FnAt Z.P Z.w Z.K Z.mg Z.base k "comes_of" I_comes_of) (n_tuple : Z.mg "tuple" = none)  (F : L2.Fun Z.K "clashes" "clashes" s_clashes fa fd) (g : Z.mg "clashes" = some (.ref fa)) : FnAt Z.P Z.w Z.K Z.mg Z.base (k + 1) "clashes" I_clashes :=
  fnAt_fun F g sc_clashes ar3 rfl (fun _ _ _ _ _ _ us h => match us, h with | [_, _, _], _ => rfl) (fun us h => match us, h with | [_, _, _], _ => rfl) fun X W ent c => b_clashes a_parts_of a_comes_of n_tuple c

abbrev s__law_begin : Stmt := topS 16
theorem sc__law_begin : FnScope ["script"] ["script"] (defScope s__law_begin) := ⟨rfl, rfl, rfl, by decide +kernel, rfl, by decide +kernel, by decide +kernel⟩
theorem b__law_begin {Z : En} {k : Nat} {X : Cx} {W : WX} {ent : Ent}    (c : Dx Z ["script"] (defScope s__law_begin) k X W) : PSs X (defBody s__law_begin) (rdS X.gb W ent m__law_begin) := by
  have c0 := c.toBx
  exact (semB_cons (semS_ret (semW_disp (.cons (fun ent => (sem_bin op_addD fr_add.ok (ov c0 0 (by decide +kernel)) (ox (sem_frz (semW_lst (pa_ops (opc (ox xi) opn))))))) (.cons (fun ent => xi) (.cons (fun ent => xi) (.cons (fun ent => xi) .nil)))) rfl rfl (List.cons_ne_nil _ _) (by decide) rfl (by decide))) semB_nil)
theorem t__law_begin {Z : En} {k : Nat} {fa : Addr} {fd : FuncData}    (F : L2.Fun Z.K "_law_begin" "_law_begin" s__law_begin fa fd) (g : Z.mg "_law_begin" = some (.ref fa)) : FnAt Z.P Z.w Z.K Z.mg Z.base (k + 1) "_law_begin" I__law_begin :=
  fnAt_fun F g sc__law_begin ar1 rfl (fun _ _ _ _ _ _ us h => match us, h with | [_], _ => rfl) (fun us h => match us, h with | [_], _ => rfl) fun X W ent c => b__law_begin  c

abbrev s__law_mixed : Stmt := topS 17
theorem sc__law_mixed : FnScope ["cell", "k", "number"] ["cell", "k"] (defScope s__law_mixed) := ⟨rfl, rfl, rfl, by decide +kernel, rfl, by decide +kernel, by decide +kernel⟩
theorem b__law_mixed {Z : En} {k : Nat} {X : Cx} {W : WX} {ent : Ent}    (c : Dx Z ["cell", "k", "number"] (defScope s__law_mixed) k X W) : PSs X (defBody s__law_mixed) (rdS X.gb W ent m__law_mixed) := by
  have c0 := c.toBx
  exact (semB_cons (sset c0 2 (by decide +kernel) (semW_val (sem_bin op_modN ok_mod (ox (sem_bin op_addD fr_add.ok (ox (sem_bin op_addD fr_add.ok (ox (sem_bin op_addD fr_add.ok (ox (sem_bin op_modN ok_mod (ov c0 0 (by decide +kernel)) (ox xi))) (ox (sem_bin op_mulD fr_mul.ok (ox (sem_bin op_mulD fr_mul.ok (ox xi) (ov c0 1 (by decide +kernel)))) (ov c0 1 (by decide +kernel)))))) (ox (sem_bin op_mulD fr_mul.ok (ox xi) (ov c0 1 (by decide +kernel)))))) (ox xi))) (ox xi)))) (semB_cons (sset c0 2 (by decide +kernel) (semW_val (sem_bin op_modN ok_mod (ox (sem_bin op_mulD fr_mul.ok (ox (sem_bin op_modN ok_mod (ox (sem_bin op_mulD fr_mul.ok (ov c0 2 (by decide +kernel)) (ov c0 2 (by decide +kernel)))) (ox xi))) (ov c0 2 (by decide +kernel)))) (ox xi)))) (semB_cons (semS_ret (semW_val (sem_bin op_fdivN ok_fdiv (ox (sem_bin op_modN ok_mod (ox (sem_bin op_mulD fr_mul.ok (ov c0 2 (by decide +kernel)) (ox (sem_bin op_addD fr_add.ok (ox xi) (ox (sem_bin op_mulD fr_mul.ok (ox xi) (ox (sem_bin op_modN ok_mod (ov c0 1 (by decide +kernel)) (ox xi))))))))) (ox xi))) (ox xi)))) semB_nil)))
theorem t__law_mixed {Z : En} {k : Nat} {fa : Addr} {fd : FuncData}    (F : L2.Fun Z.K "_law_mixed" "_law_mixed" s__law_mixed fa fd) (g : Z.mg "_law_mixed" = some (.ref fa)) : FnAt Z.P Z.w Z.K Z.mg Z.base (k + 1) "_law_mixed" I__law_mixed :=
  fnAt_fun F g sc__law_mixed ar2 rfl (fun _ _ _ _ _ _ us h => match us, h with | [_, _], _ => rfl) (fun us h => match us, h with | [_, _], _ => rfl) fun X W ent c => b__law_mixed  c

abbrev s__law_next : Stmt := topS 18
theorem sc__law_next : FnScope ["draw", "many", "cells", "cell", "found"] ["draw", "many"] (defScope s__law_next) := ⟨rfl, rfl, rfl, by decide +kernel, rfl, by decide +kernel, by decide +kernel⟩
theorem b__law_next {Z : En} {k : Nat} {X : Cx} {W : WX} {ent : Ent} (a__law_mixed : FnAt Z.P Z.w Z.K Z.mg Z.base k "_law_mixed" I__law_mixed) (n_len : Z.mg "len" = none)  (c : Dx Z ["draw", "many", "cells", "cell", "found"] (defScope s__law_next) k X W) : PSs X (defBody s__law_next) (rdS X.gb W ent m__law_next) := by
  have c0 := c.toBx
  exact (semB_cons (semS_if (semT_cmp op_gtD ok_ord (ox (sem_get (hu1 c0) (xv c0 0 (by decide +kernel)) xs)) (ox xi) (by rfl)) (semB_cons (sset c0 4 (by decide +kernel) (semW_val (sem_bin op_modN ok_mod (ox (sem_get (hu1 c0) (xv c0 0 (by decide +kernel)) xs)) (ov c0 1 (by decide +kernel))))) (semB_cons (semS_putD (hu1 c0) (xv c0 0 (by decide +kernel)) xs (sem_bin op_fdivN ok_fdiv (ox (sem_get (hu1 c0) (xv c0 0 (by decide +kernel)) xs)) (ov c0 1 (by decide +kernel))) (by rfl)) (semB_cons (semS_ret (xmove c0 4 (by decide +kernel))) semB_nil))) semB_nil) (semB_cons (sset c0 2 (by decide +kernel) (semW_val (sem_get (hu1 c0) (xv c0 0 (by decide +kernel)) xs))) (semB_cons (sset c0 3 (by decide +kernel) (semW_val (sem_ix (ix_all (hu65 c0)) ok_ix (ov c0 2 (by decide +kernel)) (ox (sem_bin op_modN ok_mod (ox (sem_get (hu1 c0) (xv c0 0 (by decide +kernel)) xs)) (ox (sem_bi c0 c_len ok_len (by decide +kernel) n_len (by decide +kernel) (opc (ov c0 2 (by decide +kernel)) opn))))) (by intro _ _; rfl)))) (semB_cons (semS_putD (hu1 c0) (xv c0 0 (by decide +kernel)) xs (sem_bin op_addD fr_add.ok (ox (sem_get (hu1 c0) (xv c0 0 (by decide +kernel)) xs)) (ox xi)) (by rfl)) (semB_cons (semS_if ((semW_and (semT_cmp op_geD ok_ord (ov c0 3 (by decide +kernel)) (ox (sem_bin op_pow ok_pow (ox xi) (ox xi))) (by rfl)) (semW_one (semT_cmp op_leD ok_ord (ox (sem_get (hu1 c0) (xv c0 0 (by decide +kernel)) xs)) (ox (sem_bi c0 c_len ok_len (by decide +kernel) n_len (by decide +kernel) (opc (ov c0 2 (by decide +kernel)) opn))) (by rfl))))).pt (semB_cons (semS_putD (hu1 c0) (xv c0 0 (by decide +kernel)) xs (sem_bin op_fdivN ok_fdiv (ov c0 3 (by decide +kernel)) (ov c0 1 (by decide +kernel))) (by rfl)) (semB_cons (semS_ret (semW_val (sem_bin op_modN ok_mod (ov c0 3 (by decide +kernel)) (ov c0 1 (by decide +kernel))))) semB_nil)) semB_nil) (semB_cons (semS_putD (hu1 c0) (xv c0 0 (by decide +kernel)) xs (sem_bin op_addD fr_add.ok (ox (sem_get (hu1 c0) (xv c0 0 (by decide +kernel)) xs)) (ox xi)) (by rfl)) (semB_cons (semS_ret (semW_val (sem_bin op_modN ok_mod (ox (sem_frz (xcall c0 a__law_mixed (by decide +kernel) (List.mem_singleton.mpr rfl) (opc (ox (sem_frz (xcall c0 a__law_mixed (by decide +kernel) (List.mem_singleton.mpr rfl) (opc (ox (xv c0 3 (by decide +kernel))) (opc (ox (sem_get (hu1 c0) (xv c0 0 (by decide +kernel)) xs)) opn)) .nil))) (opc (ox (sem_get (hu1 c0) (xv c0 0 (by decide +kernel)) xs)) opn)) .nil))) (ov c0 1 (by decide +kernel))))) semB_nil)))))))
theorem t__law_next {Z : En} {k : Nat} {fa : Addr} {fd : FuncData} (a__law_mixed : FnAt Z.P Z.w Z.K Z.mg Z.base k "_law_mixed" I__law_mixed) (n_len : Z.mg "len" = none)  (F : L2.Fun Z.K "_law_next" "_law_next" s__law_next fa fd) (g : Z.mg "_law_next" = some (.ref fa)) : FnAt Z.P Z.w Z.K Z.mg Z.base (k + 1) "_law_next" I__law_next :=
  fnAt_fun F g sc__law_next ar2 rfl (fun _ _ _ _ _ _ us h => match us, h with | [_, _], _ => rfl) (fun us h => match us, h with | [_, _], _ => rfl) fun X W ent c => b__law_next a__law_mixed n_len c

abbrev s__law_line : Stmt := topS 19
theorem sc__law_line : FnScope ["draw", "signs", "way", "k"] ["draw"] (defScope s__law_line) := ⟨rfl, rfl, rfl, by decide +kernel, rfl, by decide +kernel, by decide +kernel⟩
theorem b__law_line {Z : En} {k : Nat} {X : Cx} {W : WX} {ent : Ent} (a__law_next : FnAt Z.P Z.w Z.K Z.mg Z.base k "_law_next" I__law_next) (n_range : Z.mg "range" = none)  (c : Dx Z ["draw", "signs", "way", "k"] (defScope s__law_line) k X W) : PSs X (defBody s__law_line) (rdS X.gb W ent m__law_line) := by
  have c0 := c.toBx
  exact (semB_cons (sset c0 1 (by decide +kernel) (semW_val xs)) (semB_cons (sset c0 2 (by decide +kernel) (xcall c0 a__law_next (by decide +kernel) (List.mem_singleton.mpr rfl) (opc (ox (xv c0 0 (by decide +kernel))) (opc (ox xi) opn)) .nil)) (semB_cons (semS_if (semT_cmp (op_eqA (hu64 c0)) ok_eq (ov c0 2 (by decide +kernel)) (ox xi) (by rfl)) (semB_cons (semS_ret (semW_val (sem_sm PySem.F.slot_str_join PySem.F.type_str_join mt_join ok_join xs (opc (ox (sem_frz (semW_lc c0 [("k", 3)] (by decide +kernel) (semI_range1 (Gl.of c0 (by decide +kernel)) (mgN c0 n_range) (opc (ox (sem_frz (xcall c0 a__law_next (by decide +kernel) (List.mem_singleton.mpr rfl) (opc (ox (xv c0 0 (by decide +kernel))) (opc (ox xi) opn)) .nil))) opn) rfl) tg_nm rfl fun s1 H1 C1 cl1 fp1 c1 => ⟨(gn c1 3 (by decide +kernel)), .nil, fun ent => (sem_ix (ix_all (hu65 c1)) ok_ix (ov c1 1 (by decide +kernel)) (ox (sem_frz (xcall c1 a__law_next (by decide +kernel) (List.mem_singleton.mpr rfl) (opc (ox (xv c1 0 (by decide +kernel))) (opc (ox xi) opn)) .nil))) (by intro _ _; rfl))⟩))) opn)))) semB_nil) semB_nil) (semB_cons (semS_if (semT_cmp (op_eqA (hu64 c0)) ok_eq (ov c0 2 (by decide +kernel)) (ox xi) (by rfl)) (semB_cons (semS_ret (semW_bin op_mulD fr_mul (ox (sem_ix (ix_all (hu65 c0)) ok_ix (ov c0 1 (by decide +kernel)) (ox (sem_frz (xcall c0 a__law_next (by decide +kernel) (List.mem_singleton.mpr rfl) (opc (ox (xv c0 0 (by decide +kernel))) (opc (ox xi) opn)) .nil))) (by intro _ _; rfl))) (ox (sem_ix (ix_all (hu65 c0)) ok_ix (ox (sem_frz (semW_lst (pa_ops (opc (ox xi) (opc (ox xi) (opc (ox xi) opn))))))) (ox (sem_frz (xcall c0 a__law_next (by decide +kernel) (List.mem_singleton.mpr rfl) (opc (ox (xv c0 0 (by decide +kernel))) (opc (ox xi) opn)) .nil))) (by intro _ _; rfl))))) semB_nil) semB_nil) (semB_cons (semS_ret (semW_val (sem_ix (ix_all (hu65 c0)) ok_ix (ox (sem_frz (semW_lst (pa_ops (opc (ox xs) (opc (ox xs) (opc (ox xs) (opc (ox xs) (opc (ox xs) (opc (ox xs) (opc (ox xs) (opc (ox xs) (opc (ox xs) (opc (ox xs) opn)))))))))))))) (ox (sem_frz (xcall c0 a__law_next (by decide +kernel) (List.mem_singleton.mpr rfl) (opc (ox (xv c0 0 (by decide +kernel))) (opc (ox xi) opn)) .nil))) (by intro _ _; rfl)))) semB_nil)))))
theorem t__law_line {Z : En} {k : Nat} {fa : Addr} {fd : FuncData} (a__law_next : FnAt Z.P Z.w Z.K Z.mg Z.base k "_law_next" I__law_next) (n_range : Z.mg "range" = none)  (F : L2.Fun Z.K "_law_line" "_law_line" s__law_line fa fd) (g : Z.mg "_law_line" = some (.ref fa)) : FnAt Z.P Z.w Z.K Z.mg Z.base (k + 1) "_law_line" I__law_line :=
  fnAt_fun F g sc__law_line ar1 rfl (fun _ _ _ _ _ _ us h => match us, h with | [_], _ => rfl) (fun us h => match us, h with | [_], _ => rfl) fun X W ent c => b__law_line a__law_next n_range c

abbrev s__law_lines : Stmt := topS 20
theorem sc__law_lines : FnScope ["draw", "pool", "most", "k"] ["draw", "pool", "most"] (defScope s__law_lines) := ⟨rfl, rfl, rfl, by decide +kernel, rfl, by decide +kernel, by decide +kernel⟩
theorem b__law_lines {Z : En} {k : Nat} {X : Cx} {W : WX} {ent : Ent} (a__law_next : FnAt Z.P Z.w Z.K Z.mg Z.base k "_law_next" I__law_next) (n_range : Z.mg "range" = none) (n_len : Z.mg "len" = none) (n_tuple : Z.mg "tuple" = none)  (c : Dx Z ["draw", "pool", "most", "k"] (defScope s__law_lines) k X W) : PSs X (defBody s__law_lines) (rdS X.gb W ent m__law_lines) := by
  have c0 := c.toBx
  exact (semB_cons (semS_ret (semW_val (sem_bt c0 call_tuple_of ok_tuple (by decide +kernel) n_tuple (by decide +kernel) (opc (ox (sem_frz (semW_lc c0 [("k", 3)] (by decide +kernel) (semI_range1 (Gl.of c0 (by decide +kernel)) (mgN c0 n_range) (opc (ox (sem_frz (xcall c0 a__law_next (by decide +kernel) (List.mem_singleton.mpr rfl) (opc (ox (xv c0 0 (by decide +kernel))) (opc (ox (sem_bin op_addD fr_add.ok (ov c0 2 (by decide +kernel)) (ox xi))) opn)) .nil))) opn) rfl) tg_nm rfl fun s1 H1 C1 cl1 fp1 c1 => ⟨(gn c1 3 (by decide +kernel)), .nil, fun ent => (sem_ix (ix_all (hu65 c1)) ok_ix (ov c1 1 (by decide +kernel)) (ox (sem_frz (xcall c1 a__law_next (by decide +kernel) (List.mem_singleton.mpr rfl) (opc (ox (xv c1 0 (by decide +kernel))) (opc (ox (sem_bi c1 c_len ok_len (by decide +kernel) n_len (by decide +kernel) (opc (ov c1 1 (by decide +kernel)) opn))) opn)) .nil))) (by intro _ _; rfl))⟩))) opn)))) semB_nil)
theorem t__law_lines {Z : En} {k : Nat} {fa : Addr} {fd : FuncData} (a__law_next : FnAt Z.P Z.w Z.K Z.mg Z.base k "_law_next" I__law_next) (n_range : Z.mg "range" = none) (n_len : Z.mg "len" = none) (n_tuple : Z.mg "tuple" = none)  (F : L2.Fun Z.K "_law_lines" "_law_lines" s__law_lines fa fd) (g : Z.mg "_law_lines" = some (.ref fa)) : FnAt Z.P Z.w Z.K Z.mg Z.base (k + 1) "_law_lines" I__law_lines :=
  fnAt_fun F g sc__law_lines ar3 rfl (fun _ _ _ _ _ _ us h => match us, h with | [_, _, _], _ => rfl) (fun us h => match us, h with | [_, _, _], _ => rfl) fun X W ent c => b__law_lines a__law_next n_range n_len n_tuple c

abbrev s__law_changed : Stmt := topS 21
theorem sc__law_changed : FnScope ["draw", "lines", "pool", "many", "some", "time", "at", "way", "line"] ["draw", "lines", "pool", "many"] (defScope s__law_changed) := ⟨rfl, rfl, rfl, by decide +kernel, rfl, by decide +kernel, by decide +kernel⟩
theorem b__law_changed {Z : En} {k : Nat} {X : Cx} {W : WX} {ent : Ent} (a__law_next : FnAt Z.P Z.w Z.K Z.mg Z.base k "_law_next" I__law_next) (n_list : Z.mg "list" = none) (n_range : Z.mg "range" = none) (n_len : Z.mg "len" = none) (n_tuple : Z.mg "tuple" = none)  (c : Dx Z ["draw", "lines", "pool", "many", "some", "time", "at", "way", "line"] (defScope s__law_changed) k X W) : PSs X (defBody s__law_changed) (rdS X.gb W ent m__law_changed) := by
  have c0 := c.toBx
  exact (semB_cons (sset c0 4 (by decide +kernel) (semW_bt c0 call_list_of fr_list (by decide +kernel) n_list (by decide +kernel) (opc (ov c0 1 (by decide +kernel)) opn))) (semB_cons (sfor c (semI_range1 (Gl.of c0 (by decide +kernel)) (mgN c0 n_range) (opc (ov c0 3 (by decide +kernel)) opn) rfl) (gn c0 5 (by decide +kernel)) tg_nm (semB_cons (spar3 c0 6 7 8 (by decide) (by decide) (by decide) (by decide +kernel) (by decide +kernel) (by decide +kernel) (wxc (fun ent => (xcall c0 a__law_next (by decide +kernel) (List.mem_singleton.mpr rfl) (opc (ox (xv c0 0 (by decide +kernel))) (opc (ox (sem_bin op_addD fr_add.ok (ox (sem_bi c0 c_len ok_len (by decide +kernel) n_len (by decide +kernel) (opc (ov c0 4 (by decide +kernel)) opn))) (ox xi))) opn)) .nil)) (wxc (fun ent => (xcall c0 a__law_next (by decide +kernel) (List.mem_singleton.mpr rfl) (opc (ox (xv c0 0 (by decide +kernel))) (opc (ox xi) opn)) .nil)) (wxc (fun ent => (semW_val (sem_ix (ix_all (hu65 c0)) ok_ix (ov c0 2 (by decide +kernel)) (ox (sem_frz (xcall c0 a__law_next (by decide +kernel) (List.mem_singleton.mpr rfl) (opc (ox (xv c0 0 (by decide +kernel))) (opc (ox (sem_bi c0 c_len ok_len (by decide +kernel) n_len (by decide +kernel) (opc (ov c0 2 (by decide +kernel)) opn))) opn)) .nil))) (by intro _ _; rfl)))) wxn))) (by decide +kernel)) (semB_cons (semS_if ((semW_and (semT_cmp op_ltD ok_ord (ov c0 7 (by decide +kernel)) (ox xi) (by rfl)) (semW_one (semT_cmp op_ltD ok_ord (ox (sem_bi c0 c_len ok_len (by decide +kernel) n_len (by decide +kernel) (opc (ov c0 4 (by decide +kernel)) opn))) (ox xi) (by rfl))))).pt (semB_cons (semS_drop (sem_lm c0 PySem.F.slot_list_insert PySem.F.type_list_insert mt_insert ok_insert (by decide +kernel) (opc (ox (xv c0 6 (by decide +kernel))) (opc (ox (xv c0 8 (by decide +kernel))) opn))) (by rfl)) semB_nil) (semB_cons (semS_if (semT_cmp (op_eqA (hu64 c0)) ok_eq (ov c0 7 (by decide +kernel)) (ox xi) (by rfl)) (semB_cons (sset c0 4 (by decide +kernel) (semW_bin op_addD fr_add (ox (sem_sl01 (ov c0 4 (by decide +kernel)) (xv c0 6 (by decide +kernel)))) (ox (sem_sl10 (ov c0 4 (by decide +kernel)) (sem_bin op_addD fr_add.ok (ov c0 6 (by decide +kernel)) (ox xi)))))) semB_nil) (semB_cons (semS_if ((semW_and (semT_cmp (op_eqA (hu64 c0)) ok_eq (ov c0 7 (by decide +kernel)) (ox xi) (by rfl)) (semW_one (semT_cmp op_ltD ok_ord (ov c0 6 (by decide +kernel)) (ox (sem_bi c0 c_len ok_len (by decide +kernel) n_len (by decide +kernel) (opc (ov c0 4 (by decide +kernel)) opn))) (by rfl))))).pt (semB_cons (semS_putL c0 (by decide +kernel) (xv c0 6 (by decide +kernel)) (xv c0 8 (by decide +kernel))) semB_nil) (semB_cons (semS_if (semT_cmp op_ltD ok_ord (ov c0 6 (by decide +kernel)) (ox (sem_bi c0 c_len ok_len (by decide +kernel) n_len (by decide +kernel) (opc (ov c0 4 (by decide +kernel)) opn))) (by rfl)) (semB_cons (sset c0 8 (by decide +kernel) (semW_val (sem_lm c0 PySem.F.slot_list_pop PySem.F.type_list_pop mt_popAt ok_popAt (by decide +kernel) (opc (ox (xv c0 6 (by decide +kernel))) opn)))) (semB_cons (semS_drop (sem_lm c0 PySem.F.slot_list_insert PySem.F.type_list_insert mt_insert ok_insert (by decide +kernel) (opc (ox (sem_frz (xcall c0 a__law_next (by decide +kernel) (List.mem_singleton.mpr rfl) (opc (ox (xv c0 0 (by decide +kernel))) (opc (ox (sem_bin op_addD fr_add.ok (ox (sem_bi c0 c_len ok_len (by decide +kernel) n_len (by decide +kernel) (opc (ov c0 4 (by decide +kernel)) opn))) (ox xi))) opn)) .nil))) (opc (ox (xv c0 8 (by decide +kernel))) opn))) (by rfl)) semB_nil)) semB_nil) semB_nil)) semB_nil)) semB_nil)) semB_nil))) (semB_cons (semS_ret (semW_val (sem_bt c0 call_tuple_of ok_tuple (by decide +kernel) n_tuple (by decide +kernel) (opc (ov c0 4 (by decide +kernel)) opn)))) semB_nil)))
theorem t__law_changed {Z : En} {k : Nat} {fa : Addr} {fd : FuncData} (a__law_next : FnAt Z.P Z.w Z.K Z.mg Z.base k "_law_next" I__law_next) (n_list : Z.mg "list" = none) (n_range : Z.mg "range" = none) (n_len : Z.mg "len" = none) (n_tuple : Z.mg "tuple" = none)  (F : L2.Fun Z.K "_law_changed" "_law_changed" s__law_changed fa fd) (g : Z.mg "_law_changed" = some (.ref fa)) : FnAt Z.P Z.w Z.K Z.mg Z.base (k + 1) "_law_changed" I__law_changed :=
  fnAt_fun F g sc__law_changed ar4 rfl (fun _ _ _ _ _ _ us h => match us, h with | [_, _, _, _], _ => rfl) (fun us h => match us, h with | [_, _, _, _], _ => rfl) fun X W ent c => b__law_changed a__law_next n_list n_range n_len n_tuple c

abbrev s__law_table : Stmt := topS 22
theorem sc__law_table : FnScope ["one", "other", "rows", "line", "row", "k"] ["one", "other"] (defScope s__law_table) := ⟨rfl, rfl, rfl, by decide +kernel, rfl, by decide +kernel, by decide +kernel⟩
theorem b__law_table {Z : En} {k : Nat} {X : Cx} {W : WX} {ent : Ent}  (n_len : Z.mg "len" = none) (n_range : Z.mg "range" = none) (n_max : Z.mg "max" = none)  (c : Dx Z ["one", "other", "rows", "line", "row", "k"] (defScope s__law_table) k X W) : PSs X (defBody s__law_table) (rdS X.gb W ent m__law_table) := by
  have c0 := c.toBx
  exact (semB_cons (sset c0 2 (by decide +kernel) (semW_lst (pa_ops (opc (ox (sem_bin op_mulD fr_mul.ok (ox (sem_frz (semW_lst (pa_ops (opc (ox xi) opn))))) (ox (sem_bin op_addD fr_add.ok (ox (sem_bi c0 c_len ok_len (by decide +kernel) n_len (by decide +kernel) (opc (ov c0 1 (by decide +kernel)) opn))) (ox xi))))) opn)))) (semB_cons (sfor c (semI_val (sem_rev (ov c0 0 (by decide +kernel)))) (gn c0 3 (by decide +kernel)) tg_nm (semB_cons (sset c0 4 (by decide +kernel) (semW_lst (pa_ops (opc (ox xi) opn)))) (semB_cons (sfor c (semI_range3 (Gl.of c0 (by decide +kernel)) (mgN c0 n_range) (opc (ox (sem_bin (opI0I op_sub) ok_sub (ox (sem_bi c0 c_len ok_len (by decide +kernel) n_len (by decide +kernel) (opc (ov c0 1 (by decide +kernel)) opn))) (ox xi))) (opc (ox (sem_un un_neg ok_neg (ox xi))) (opc (ox (sem_un un_neg ok_neg (ox xi))) opn))) rfl rfl rfl) (gn c0 5 (by decide +kernel)) tg_nm (semB_cons (sset c0 4 (by decide +kernel) (semW_bin op_addD fr_add (ox (sem_frz (semW_lst (pa_ops (opc (ox (sem_if (semT_cmp (op_eqA (hu64 c0)) ok_eq (ox (sem_ix (ix_all (hu65 c0)) ok_ix (ov c0 1 (by decide +kernel)) (ov c0 5 (by decide +kernel)) (by intro _ _; rfl))) (ov c0 3 (by decide +kernel)) (by rfl)) (sem_bin op_addD fr_add.ok (ox xi) (ox (sem_ix (ix_all (hu65 c0)) ok_ix (ox (sem_ix (ix_all (hu65 c0)) ok_ix (ov c0 2 (by decide +kernel)) (ox xi) (by intro _ _; rfl))) (ox (sem_bin op_addD fr_add.ok (ov c0 5 (by decide +kernel)) (ox xi))) (by intro _ _; rfl)))) (sem_bi c0 (call_max2 c0.calm) ok_max (by decide +kernel) n_max (by decide +kernel) (opc (ox (sem_ix (ix_all (hu65 c0)) ok_ix (ox (sem_ix (ix_all (hu65 c0)) ok_ix (ov c0 2 (by decide +kernel)) (ox xi) (by intro _ _; rfl))) (ov c0 5 (by decide +kernel)) (by intro _ _; rfl))) (opc (ox (sem_ix (ix_all (hu65 c0)) ok_ix (ov c0 4 (by decide +kernel)) (ox xi) (by intro _ _; rfl))) opn))))) opn))))) (ov c0 4 (by decide +kernel)))) semB_nil)) (semB_cons (sset c0 2 (by decide +kernel) (semW_bin op_addD fr_add (ox (sem_frz (semW_lst (pa_ops (opc (ox (xv c0 4 (by decide +kernel))) opn))))) (ov c0 2 (by decide +kernel)))) semB_nil)))) (semB_cons (semS_ret (xmove c0 2 (by decide +kernel))) semB_nil)))
theorem t__law_table {Z : En} {k : Nat} {fa : Addr} {fd : FuncData}  (n_len : Z.mg "len" = none) (n_range : Z.mg "range" = none) (n_max : Z.mg "max" = none)  (F : L2.Fun Z.K "_law_table" "_law_table" s__law_table fa fd) (g : Z.mg "_law_table" = some (.ref fa)) : FnAt Z.P Z.w Z.K Z.mg Z.base (k + 1) "_law_table" I__law_table :=
  fnAt_fun F g sc__law_table ar2 rfl (fun _ _ _ _ _ _ us h => match us, h with | [_, _], _ => rfl) (fun us h => match us, h with | [_, _], _ => rfl) fun X W ent c => b__law_table n_len n_range n_max c

abbrev s__law_row : Stmt := topS 23
theorem sc__law_row : FnScope ["one", "other", "rows", "found", "i", "j", "spot", "at", "fits", "b"] ["one", "other"] (defScope s__law_row) := ⟨rfl, rfl, rfl, by decide +kernel, rfl, by decide +kernel, by decide +kernel⟩
theorem b__law_row {Z : En} {k : Nat} {X : Cx} {W : WX} {ent : Ent} (a__law_table : FnAt Z.P Z.w Z.K Z.mg Z.base k "_law_table" I__law_table) (n_len : Z.mg "len" = none) (n_range : Z.mg "range" = none)  (c : Dx Z ["one", "other", "rows", "found", "i", "j", "spot", "at", "fits", "b"] (defScope s__law_row) k X W) : PSs X (defBody s__law_row) (rdS X.gb W ent m__law_row) := by
  have c0 := c.toBx
  exact (semB_cons (sparT c0 (pgs_c (i := 2) c0 (by decide +kernel) (pgs_c (i := 3) c0 (by decide +kernel) (pgs_c (i := 4) c0 (by decide +kernel) (pgs_c (i := 5) c0 (by decide +kernel) pgs_nil)))) (wxc (fun ent => (xcall c0 a__law_table (by decide +kernel) (List.mem_singleton.mpr rfl) (opc (ox (xv c0 0 (by decide +kernel))) (opc (ox (xv c0 1 (by decide +kernel))) opn)) .nil)) (wxc (fun ent => (semW_lst (pa_ops opn))) (wxc (fun ent => (semW_val xi)) (wxc (fun ent => (semW_val xi)) wxn)))) (by decide +kernel)) (semB_cons (swhile 100000 c (semT_cmp op_gtD ok_ord (ox (sem_ix (ix_all (hu65 c0)) ok_ix (ox (sem_ix (ix_all (hu65 c0)) ok_ix (ov c0 2 (by decide +kernel)) (ov c0 4 (by decide +kernel)) (by intro _ _; rfl))) (ov c0 5 (by decide +kernel)) (by intro _ _; rfl))) (ox xi) (by rfl)) (semB_cons (sparT c0 (pgs_c (i := 6) c0 (by decide +kernel) (pgs_c (i := 7) c0 (by decide +kernel) pgs_nil)) (wxc (fun ent => (semW_val xn)) (wxc (fun ent => (semW_val (xv c0 4 (by decide +kernel)))) wxn)) (by decide +kernel)) (semB_cons (swhile 100000 c (semT_cmp op_isN ok_isN (ov c0 6 (by decide +kernel)) (ox xn) (by rfl)) (semB_cons (semS_setLc c0 (by decide +kernel) (sw_lc (i := 8) c0 (by decide +kernel) (by decide +kernel)) [("b", 9)] (by decide +kernel) (semI_range2 (Gl.of c0 (by decide +kernel)) (mgN c0 n_range) (opc (ov c0 5 (by decide +kernel)) (opc (ox (sem_bi c0 c_len ok_len (by decide +kernel) n_len (by decide +kernel) (opc (ov c0 1 (by decide +kernel)) opn))) opn)) rfl rfl) tg_nm rfl fun s1 H1 C1 cl1 fp1 c1 => ⟨(gn c1 9 (by decide +kernel)), (.one fun ent => ((semW_and (semT_cmp (op_eqA (hu64 c1)) ok_eq (ox (sem_ix (ix_all (hu65 c1)) ok_ix (ov c1 1 (by decide +kernel)) (ov c1 9 (by decide +kernel)) (by intro _ _; rfl))) (ox (sem_ix (ix_all (hu65 c1)) ok_ix (ov c1 0 (by decide +kernel)) (ov c1 7 (by decide +kernel)) (by intro _ _; rfl))) (by rfl)) (semW_one (semT_cmp (op_eqA (hu64 c1)) ok_eq (ox (sem_bin op_addD fr_add.ok (ox xi) (ox (sem_ix (ix_all (hu65 c1)) ok_ix (ox (sem_ix (ix_all (hu65 c1)) ok_ix (ov c1 2 (by decide +kernel)) (ox (sem_bin op_addD fr_add.ok (ov c1 7 (by decide +kernel)) (ox xi))) (by intro _ _; rfl))) (ox (sem_bin op_addD fr_add.ok (ov c1 9 (by decide +kernel)) (ox xi))) (by intro _ _; rfl))))) (ox (sem_ix (ix_all (hu65 c1)) ok_ix (ox (sem_ix (ix_all (hu65 c1)) ok_ix (ov c1 2 (by decide +kernel)) (ov c1 4 (by decide +kernel)) (by intro _ _; rfl))) (ov c1 5 (by decide +kernel)) (by intro _ _; rfl))) (by rfl))))).pt), fun ent => (xv c1 9 (by decide +kernel))⟩) (semB_cons (sset c0 6 (by decide +kernel) (semW_if (semT_cmp (op_neA (hu64 c0)) ok_ne (ov c0 8 (by decide +kernel)) (ox (sem_frz (semW_lst (pa_ops opn)))) (by rfl)) (semW_val (sem_tup (pa_ops (opc (ox (xv c0 7 (by decide +kernel))) (opc (ox (sem_ix (ix_all (hu65 c0)) ok_ix (ov c0 8 (by decide +kernel)) (ox xi) (by intro _ _; rfl))) opn))))) (semW_val xn))) (semB_cons (sset c0 7 (by decide +kernel) (semW_bin op_addD fr_add (ov c0 7 (by decide +kernel)) (ox xi))) semB_nil)))) (semB_cons (semS_drop (sem_lm c0 PySem.F.slot_list_append PySem.F.type_list_append mt_append ok_append (by decide +kernel) (opc (ox (xv c0 6 (by decide +kernel))) opn)) (by rfl)) (semB_cons (sparT c0 (pgs_c (i := 4) c0 (by decide +kernel) (pgs_c (i := 5) c0 (by decide +kernel) pgs_nil)) (wxc (fun ent => (semW_bin op_addD fr_add (ox (sem_ix (ix_all (hu65 c0)) ok_ix (ov c0 6 (by decide +kernel)) (ox xi) (by intro _ _; rfl))) (ox xi))) (wxc (fun ent => (semW_bin op_addD fr_add (ox (sem_ix (ix_all (hu65 c0)) ok_ix (ov c0 6 (by decide +kernel)) (ox xi) (by intro _ _; rfl))) (ox xi))) wxn)) (by decide +kernel)) semB_nil))))) (semB_cons (semS_ret (xmove c0 3 (by decide +kernel))) semB_nil)))
theorem t__law_row {Z : En} {k : Nat} {fa : Addr} {fd : FuncData} (a__law_table : FnAt Z.P Z.w Z.K Z.mg Z.base k "_law_table" I__law_table) (n_len : Z.mg "len" = none) (n_range : Z.mg "range" = none)  (F : L2.Fun Z.K "_law_row" "_law_row" s__law_row fa fd) (g : Z.mg "_law_row" = some (.ref fa)) : FnAt Z.P Z.w Z.K Z.mg Z.base (k + 1) "_law_row" I__law_row :=
  fnAt_fun F g sc__law_row ar2 rfl (fun _ _ _ _ _ _ us h => match us, h with | [_, _], _ => rfl) (fun us h => match us, h with | [_, _], _ => rfl) fun X W ent c => b__law_row a__law_table n_len n_range c

abbrev s__law_stays : Stmt := topS 24
theorem sc__law_stays : FnScope ["base", "left", "right", "found", "mine", "yours", "k", "i", "at", "j"] ["base", "left", "right"] (defScope s__law_stays) := ⟨rfl, rfl, rfl, by decide +kernel, rfl, by decide +kernel, by decide +kernel⟩
def m__law_stays_0 : Tx := tBool (bPrim fEq [.sl 8, .sl 6])
def m__law_stays_1 : Ex := bTup [bVar 6, bVar 7, bVar 9]
def m__law_stays_2 : Sm := sSeq (sDrop (mExt 3 (wComp (iVal (bVar 5)) [8, 9] (.tp [.nm 8, .nm 9]) (m__law_stays_0) (m__law_stays_1)))) (sOk .next)
def m__law_stays : Sm := sSeq (sPar [4, 5] [wCall F__law_row [] ar2 [bVar 0, bVar 1] [], wCall F__law_row [] ar2 [bVar 0, bVar 2] []]) (sSeq (sSet 3 (wLst [])) (sSeq (sFor (iVal (bVar 4)) (.tp [.nm 6, .nm 7]) (m__law_stays_2)) (sSeq (sRet (wMove 3)) (sOk .next))))
def F__law_stays : Fsem := fsem 10 m__law_stays
abbrev I__law_stays : FnI := ⟨["base", "left", "right"], F__law_stays, [], [(3, [], ar3)]⟩
theorem b__law_stays {Z : En} {k : Nat} {X : Cx} {W : WX} {ent : Ent} (a__law_row : FnAt Z.P Z.w Z.K Z.mg Z.base k "_law_row" I__law_row)   (c : Dx Z ["base", "left", "right", "found", "mine", "yours", "k", "i", "at", "j"] (defScope s__law_stays) k X W) : PSs X (defBody s__law_stays) (rdS X.gb W ent m__law_stays) := by
  have c0 := c.toBx
  exact (semB_cons (spar2 c0 4 5 (by decide) (by decide +kernel) (by decide +kernel) (wxc (fun ent => (xcall c0 a__law_row (by decide +kernel) (List.mem_singleton.mpr rfl) (opc (ox (xv c0 0 (by decide +kernel))) (opc (ox (xv c0 1 (by decide +kernel))) opn)) .nil)) (wxc (fun ent => (xcall c0 a__law_row (by decide +kernel) (List.mem_singleton.mpr rfl) (opc (ox (xv c0 0 (by decide +kernel))) (opc (ox (xv c0 2 (by decide +kernel))) opn)) .nil)) wxn)) (by decide +kernel)) (semB_cons (sset c0 3 (by decide +kernel) (semW_lst (pa_ops opn))) (semB_cons (sfor c (semI_val (xv c0 4 (by decide +kernel))) (pg_tup c0.calm (pgs_cons (gn c0 6 (by decide +kernel)) (pgs_cons (gn c0 7 (by decide +kernel)) pgs_nil))) (tg_tp (tgs_cons tg_nm (tgs_cons tg_nm tgs_nil))) (semB_cons (semS_drop (sem_ext c0 (by decide +kernel) (semW_lc c0 [("at", 8), ("j", 9)] (by decide +kernel) (semI_val (xv c0 5 (by decide +kernel))) (tg_tp (tgs_cons tg_nm (tgs_cons tg_nm tgs_nil))) rfl fun s1 H1 C1 cl1 fp1 c1 => ⟨(pg_tup c1.calm (pgs_cons (gn c1 8 (by decide +kernel)) (pgs_cons (gn c1 9 (by decide +kernel)) pgs_nil))), (.one fun ent => (semT_cmp (op_eqA (hu64 c1)) ok_eq (ov c1 8 (by decide +kernel)) (ov c1 6 (by decide +kernel)) (by rfl))), fun ent => (sem_tup (pa_ops (opc (ox (xv c1 6 (by decide +kernel))) (opc (ox (xv c1 7 (by decide +kernel))) (opc (ox (xv c1 9 (by decide +kernel))) opn)))))⟩)) (by rfl)) semB_nil)) (semB_cons (semS_ret (xmove c0 3 (by decide +kernel))) semB_nil))))
theorem t__law_stays {Z : En} {k : Nat} {fa : Addr} {fd : FuncData} (a__law_row : FnAt Z.P Z.w Z.K Z.mg Z.base k "_law_row" I__law_row)   (F : L2.Fun Z.K "_law_stays" "_law_stays" s__law_stays fa fd) (g : Z.mg "_law_stays" = some (.ref fa)) : FnAt Z.P Z.w Z.K Z.mg Z.base (k + 1) "_law_stays" I__law_stays :=
  fnAt_fun F g sc__law_stays ar3 rfl (fun _ _ _ _ _ _ us h => match us, h with | [_, _, _], _ => rfl) (fun us h => match us, h with | [_, _, _], _ => rfl) fun X W ent c => b__law_stays a__law_row c

abbrev s__law_parts : Stmt := topS 25
theorem sc__law_parts : FnScope ["base", "left", "right", "spot", "several", "part", "found", "ahead", "yours", "old", "mine"] ["base", "left", "right"] (defScope s__law_parts) := ⟨rfl, rfl, rfl, by decide +kernel, rfl, by decide +kernel, by decide +kernel⟩
def m__law_parts_0 : Sm := sSeq (sPar [9, 10] [wVal (bPrim fSl11 [.sl 0, mInt (bPrim fIx [.sl 7, .ex (bC (.int 0))]), mInt (bPrim fIx [.sl 3, .ex (bC (.int 0))])]), wVal (bPrim fSl11 [.sl 1, mInt (bPrim fIx [.sl 7, .ex (bC (.int 1))]), mInt (bPrim fIx [.sl 3, .ex (bC (.int 1))])])]) (sSeq (sSet 8 (wVal (bPrim fSl11 [.sl 2, mInt (bPrim fIx [.sl 7, .ex (bC (.int 2))]), mInt (bPrim fIx [.sl 3, .ex (bC (.int 2))])]))) (sSeq (sIf (tBool (bPrim fGt [.ex (bPrim fAdd [.ex (bPrim fAdd [.ex (bPrim fLen [.sl 9]), .ex (bPrim fLen [.sl 10])]), .ex (bPrim fLen [.sl 8])]), .ex (bC (.int 0))])) (sSeq (sDrop (mMut 6 mfAppend [bTup [bC (.str "region"), bVar 9, bVar 10, bVar 8]])) (sOk .next)) (sOk .next)) (sSeq (sDrop (mMut 6 mfAppend [bTup [bC (.str "stay"), bPrim fSl11 [.sl 0, mInt (bPrim fIx [.sl 3, .ex (bC (.int 0))]), mInt (bPrim fAdd [.ex (bPrim fIx [.sl 3, .ex (bC (.int 0))]), .ex (bC (.int 1))])]]])) (sSeq (sSet 7 (wVal (bTup [bPrim fAdd [.ex (bPrim fIx [.sl 3, .ex (bC (.int 0))]), .ex (bC (.int 1))], bPrim fAdd [.ex (bPrim fIx [.sl 3, .ex (bC (.int 1))]), .ex (bC (.int 1))], bPrim fAdd [.ex (bPrim fIx [.sl 3, .ex (bC (.int 2))]), .ex (bC (.int 1))]]))) (sOk .next)))))
def m__law_parts_1 : Sm := sSeq (sIf (tAndB (tBool (bPrim fEq [.ex (bPrim fIx [.sl 5, .ex (bC (.int 0))]), .ex (bC (.str "stay"))])) (tAndB (tBool (bPrim fNe [.sl 4, .ex (eFrz (wLst []))])) (tBool (bPrim fEq [.ex (bPrim fIx [.ex (bPrim fIx [.sl 4, .ex (bPrim negF [.ex (bC (.int 1))])]), .ex (bC (.int 0))]), .ex (bC (.str "stay"))])))) (sSeq (sPutL 4 (bPrim negF [.ex (bC (.int 1))]) (bTup [bC (.str "stay"), bPrim fAdd [.ex (bPrim fIx [.ex (bPrim fIx [.sl 4, .ex (bPrim negF [.ex (bC (.int 1))])]), .ex (bC (.int 1))]), .ex (bPrim fIx [.sl 5, .ex (bC (.int 1))])]])) (sOk .next)) (sSeq (sDrop (mMut 4 mfAppend [bVar 5])) (sOk .next))) (sOk .next)
def m__law_parts : Sm := sSeq (sPar [6, 7] [wLst [], wVal (bTup [bC (.int 0), bC (.int 0), bC (.int 0)])]) (sSeq (sFor (iVal (bPrim fAdd [.ex (eFrz (wCall F__law_stays [] ar3 [bVar 0, bVar 1, bVar 2] [])), .ex (eFrz (wLst [bTup [bPrim fLen [.sl 0], bPrim fLen [.sl 1], bPrim fLen [.sl 2]]]))])) (.nm 3) (m__law_parts_0)) (sSeq (sSet 4 (wLst [])) (sSeq (sFor (iVal (bPrim fSl01 [.sl 6, mInt (bPrim negF [.ex (bC (.int 1))])])) (.nm 5) (m__law_parts_1)) (sSeq (sRet (wMove 4)) (sOk .next)))))
def F__law_parts : Fsem := fsem 11 m__law_parts
abbrev I__law_parts : FnI := ⟨["base", "left", "right"], F__law_parts, [], [(3, [], ar3)]⟩
theorem b__law_parts {Z : En} {k : Nat} {X : Cx} {W : WX} {ent : Ent} (a__law_stays : FnAt Z.P Z.w Z.K Z.mg Z.base k "_law_stays" I__law_stays) (n_len : Z.mg "len" = none)  (c : Dx Z ["base", "left", "right", "spot", "several", "part", "found", "ahead", "yours", "old", "mine"] (defScope s__law_parts) k X W) : PSs X (defBody s__law_parts) (rdS X.gb W ent m__law_parts) := by
  have c0 := c.toBx
  exact (semB_cons (spar2 c0 6 7 (by decide) (by decide +kernel) (by decide +kernel) (wxc (fun ent => (semW_lst (pa_ops opn))) (wxc (fun ent => (semW_val (sem_tup (pa_ops (opc (ox xi) (opc (ox xi) (opc (ox xi) opn))))))) wxn)) (by decide +kernel)) (semB_cons (sfor c (semI_val (sem_bin op_addD fr_add.ok (ox (sem_frz (xcall c0 a__law_stays (by decide +kernel) (List.mem_singleton.mpr rfl) (opc (ox (xv c0 0 (by decide +kernel))) (opc (ox (xv c0 1 (by decide +kernel))) (opc (ox (xv c0 2 (by decide +kernel))) opn))) .nil))) (ox (sem_frz (semW_lst (pa_ops (opc (ox (sem_tup (pa_ops (opc (ox (sem_bi c0 c_len ok_len (by decide +kernel) n_len (by decide +kernel) (opc (ov c0 0 (by decide +kernel)) opn))) (opc (ox (sem_bi c0 c_len ok_len (by decide +kernel) n_len (by decide +kernel) (opc (ov c0 1 (by decide +kernel)) opn))) (opc (ox (sem_bi c0 c_len ok_len (by decide +kernel) n_len (by decide +kernel) (opc (ov c0 2 (by decide +kernel)) opn))) opn)))))) opn))))))) (gn c0 3 (by decide +kernel)) tg_nm (semB_cons (spar2 c0 9 10 (by decide) (by decide +kernel) (by decide +kernel) (wxc (fun ent => (semW_val (sem_sl11 (ov c0 0 (by decide +kernel)) (sem_ix (ix_all (hu65 c0)) ok_ix (ov c0 7 (by decide +kernel)) (ox xi) (by intro _ _; rfl)) (sem_ix (ix_all (hu65 c0)) ok_ix (ov c0 3 (by decide +kernel)) (ox xi) (by intro _ _; rfl))))) (wxc (fun ent => (semW_val (sem_sl11 (ov c0 1 (by decide +kernel)) (sem_ix (ix_all (hu65 c0)) ok_ix (ov c0 7 (by decide +kernel)) (ox xi) (by intro _ _; rfl)) (sem_ix (ix_all (hu65 c0)) ok_ix (ov c0 3 (by decide +kernel)) (ox xi) (by intro _ _; rfl))))) wxn)) (by decide +kernel)) (semB_cons (sset c0 8 (by decide +kernel) (semW_val (sem_sl11 (ov c0 2 (by decide +kernel)) (sem_ix (ix_all (hu65 c0)) ok_ix (ov c0 7 (by decide +kernel)) (ox xi) (by intro _ _; rfl)) (sem_ix (ix_all (hu65 c0)) ok_ix (ov c0 3 (by decide +kernel)) (ox xi) (by intro _ _; rfl))))) (semB_cons (semS_if (semT_cmp op_gtD ok_ord (ox (sem_bin op_addD fr_add.ok (ox (sem_bin op_addD fr_add.ok (ox (sem_bi c0 c_len ok_len (by decide +kernel) n_len (by decide +kernel) (opc (ov c0 9 (by decide +kernel)) opn))) (ox (sem_bi c0 c_len ok_len (by decide +kernel) n_len (by decide +kernel) (opc (ov c0 10 (by decide +kernel)) opn))))) (ox (sem_bi c0 c_len ok_len (by decide +kernel) n_len (by decide +kernel) (opc (ov c0 8 (by decide +kernel)) opn))))) (ox xi) (by rfl)) (semB_cons (semS_drop (sem_lm c0 PySem.F.slot_list_append PySem.F.type_list_append mt_append ok_append (by decide +kernel) (opc (ox (sem_tup (pa_ops (opc (ox xs) (opc (ox (xv c0 9 (by decide +kernel))) (opc (ox (xv c0 10 (by decide +kernel))) (opc (ox (xv c0 8 (by decide +kernel))) opn))))))) opn)) (by rfl)) semB_nil) semB_nil) (semB_cons (semS_drop (sem_lm c0 PySem.F.slot_list_append PySem.F.type_list_append mt_append ok_append (by decide +kernel) (opc (ox (sem_tup (pa_ops (opc (ox xs) (opc (ox (sem_sl11 (ov c0 0 (by decide +kernel)) (sem_ix (ix_all (hu65 c0)) ok_ix (ov c0 3 (by decide +kernel)) (ox xi) (by intro _ _; rfl)) (sem_bin op_addD fr_add.ok (ox (sem_ix (ix_all (hu65 c0)) ok_ix (ov c0 3 (by decide +kernel)) (ox xi) (by intro _ _; rfl))) (ox xi)))) opn))))) opn)) (by rfl)) (semB_cons (sset c0 7 (by decide +kernel) (semW_val (sem_tup (pa_ops (opc (ox (sem_bin op_addD fr_add.ok (ox (sem_ix (ix_all (hu65 c0)) ok_ix (ov c0 3 (by decide +kernel)) (ox xi) (by intro _ _; rfl))) (ox xi))) (opc (ox (sem_bin op_addD fr_add.ok (ox (sem_ix (ix_all (hu65 c0)) ok_ix (ov c0 3 (by decide +kernel)) (ox xi) (by intro _ _; rfl))) (ox xi))) (opc (ox (sem_bin op_addD fr_add.ok (ox (sem_ix (ix_all (hu65 c0)) ok_ix (ov c0 3 (by decide +kernel)) (ox xi) (by intro _ _; rfl))) (ox xi))) opn))))))) semB_nil)))))) (semB_cons (sset c0 4 (by decide +kernel) (semW_lst (pa_ops opn))) (semB_cons (sfor c (semI_val (sem_sl01 (ov c0 6 (by decide +kernel)) (sem_un un_neg ok_neg (ox xi)))) (gn c0 5 (by decide +kernel)) tg_nm (semB_cons (semS_if ((semW_and (semT_cmp (op_eqA (hu64 c0)) ok_eq (ox (sem_ix (ix_all (hu65 c0)) ok_ix (ov c0 5 (by decide +kernel)) (ox xi) (by intro _ _; rfl))) (ox xs) (by rfl)) (semW_and (semT_cmp (op_neA (hu64 c0)) ok_ne (ov c0 4 (by decide +kernel)) (ox (sem_frz (semW_lst (pa_ops opn)))) (by rfl)) (semW_one (semT_cmp (op_eqA (hu64 c0)) ok_eq (ox (sem_ix (ix_all (hu65 c0)) ok_ix (ox (sem_ix (ix_all (hu65 c0)) ok_ix (ov c0 4 (by decide +kernel)) (ox (sem_un un_neg ok_neg (ox xi))) (by intro _ _; rfl))) (ox xi) (by intro _ _; rfl))) (ox xs) (by rfl)))))).pt (semB_cons (semS_putL c0 (by decide +kernel) (sem_un un_neg ok_neg (ox xi)) (sem_tup (pa_ops (opc (ox xs) (opc (ox (sem_bin op_addD fr_add.ok (ox (sem_ix (ix_all (hu65 c0)) ok_ix (ox (sem_ix (ix_all (hu65 c0)) ok_ix (ov c0 4 (by decide +kernel)) (ox (sem_un un_neg ok_neg (ox xi))) (by intro _ _; rfl))) (ox xi) (by intro _ _; rfl))) (ox (sem_ix (ix_all (hu65 c0)) ok_ix (ov c0 5 (by decide +kernel)) (ox xi) (by intro _ _; rfl))))) opn))))) semB_nil) (semB_cons (semS_drop (sem_lm c0 PySem.F.slot_list_append PySem.F.type_list_append mt_append ok_append (by decide +kernel) (opc (ox (xv c0 5 (by decide +kernel))) opn)) (by rfl)) semB_nil)) semB_nil)) (semB_cons (semS_ret (xmove c0 4 (by decide +kernel))) semB_nil)))))
theorem t__law_parts {Z : En} {k : Nat} {fa : Addr} {fd : FuncData} (a__law_stays : FnAt Z.P Z.w Z.K Z.mg Z.base k "_law_stays" I__law_stays) (n_len : Z.mg "len" = none)  (F : L2.Fun Z.K "_law_parts" "_law_parts" s__law_parts fa fd) (g : Z.mg "_law_parts" = some (.ref fa)) : FnAt Z.P Z.w Z.K Z.mg Z.base (k + 1) "_law_parts" I__law_parts :=
  fnAt_fun F g sc__law_parts ar3 rfl (fun _ _ _ _ _ _ us h => match us, h with | [_, _, _], _ => rfl) (fun us h => match us, h with | [_, _, _], _ => rfl) fun X W ent c => b__law_parts a__law_stays n_len c

abbrev s__law_side : Stmt := topS 26
theorem sc__law_side : FnScope ["parts", "at", "found", "part"] ["parts", "at"] (defScope s__law_side) := ⟨rfl, rfl, rfl, by decide +kernel, rfl, by decide +kernel, by decide +kernel⟩
def m__law_side_0 : Sm := sSeq (sSet 2 (wPrim fAdd [.sl 2, .ex (bIf (tBool (bPrim fEq [.ex (bPrim fIx [.sl 3, .ex (bC (.int 0))]), .ex (bC (.str "stay"))])) (bPrim fIx [.sl 3, .ex (bC (.int 1))]) (bPrim fIx [.sl 3, .sl 1]))])) (sOk .next)
def m__law_side : Sm := sSeq (sSet 2 (wVal (bTup []))) (sSeq (sFor (iVal (bVar 0)) (.nm 3) (m__law_side_0)) (sSeq (sRet (wMove 2)) (sOk .next)))
def F__law_side : Fsem := fsem 4 m__law_side
abbrev I__law_side : FnI := ⟨["parts", "at"], F__law_side, [], [(2, [], ar2)]⟩
theorem b__law_side {Z : En} {k : Nat} {X : Cx} {W : WX} {ent : Ent}    (c : Dx Z ["parts", "at", "found", "part"] (defScope s__law_side) k X W) : PSs X (defBody s__law_side) (rdS X.gb W ent m__law_side) := by
  have c0 := c.toBx
  exact (semB_cons (sset c0 2 (by decide +kernel) (semW_val (sem_tup (pa_ops opn)))) (semB_cons (sfor c (semI_val (xv c0 0 (by decide +kernel))) (gn c0 3 (by decide +kernel)) tg_nm (semB_cons (sset c0 2 (by decide +kernel) (semW_bin op_addD fr_add (ov c0 2 (by decide +kernel)) (ox (sem_if (semT_cmp (op_eqA (hu64 c0)) ok_eq (ox (sem_ix (ix_all (hu65 c0)) ok_ix (ov c0 3 (by decide +kernel)) (ox xi) (by intro _ _; rfl))) (ox xs) (by rfl)) (sem_ix (ix_all (hu65 c0)) ok_ix (ov c0 3 (by decide +kernel)) (ox xi) (by intro _ _; rfl)) (sem_ix (ix_all (hu65 c0)) ok_ix (ov c0 3 (by decide +kernel)) (ov c0 1 (by decide +kernel)) (by intro _ _; rfl)))))) semB_nil)) (semB_cons (semS_ret (xmove c0 2 (by decide +kernel))) semB_nil)))
theorem t__law_side {Z : En} {k : Nat} {fa : Addr} {fd : FuncData}    (F : L2.Fun Z.K "_law_side" "_law_side" s__law_side fa fd) (g : Z.mg "_law_side" = some (.ref fa)) : FnAt Z.P Z.w Z.K Z.mg Z.base (k + 1) "_law_side" I__law_side :=
  fnAt_fun F g sc__law_side ar2 rfl (fun _ _ _ _ _ _ us h => match us, h with | [_, _], _ => rfl) (fun us h => match us, h with | [_, _], _ => rfl) fun X W ent c => b__law_side  c

abbrev s__law_right : Stmt := topS 27
theorem sc__law_right : FnScope ["base", "left", "right", "told", "clashing", "before", "due", "part"] ["base", "left", "right"] (defScope s__law_right) := ⟨rfl, rfl, rfl, by decide +kernel, rfl, by decide +kernel, by decide +kernel⟩
def m__law_right_0 : Tx := tAndB (tBool (bPrim fEq [.ex (bPrim fIx [.sl 7, .ex (bC (.int 0))]), .ex (bC (.str "region"))])) (tAndB (tBool (bPrim fNe [.ex (bPrim fIx [.sl 7, .ex (bC (.int 2))]), .ex (bPrim fIx [.sl 7, .ex (bC (.int 1))])])) (tBool (bPrim fNe [.ex (bPrim fIx [.sl 7, .ex (bC (.int 3))]), .ex (bPrim fIx [.sl 7, .ex (bC (.int 1))])])))
def m__law_right_1 : Ex := bPrim fSl10 [.sl 7, mInt (bC (.int 1))]
def m__law_right_2 : Tx := tBool (bPrim fNe [.ex (bPrim fIx [.sl 7, .ex (bC (.int 1))]), .ex (bPrim fIx [.sl 7, .ex (bC (.int 2))])])
def m__law_right : Sm := sSeq (sPar [5, 6] [wVal (bPrim fRepr [.ex (eFrz (wLst [bVar 0, bVar 1, bVar 2]))]), wCall F__law_parts [] ar3 [bVar 0, bVar 1, bVar 2] []]) (sSeq (sSet 3 (wCall F_parts_of [] ar3 [bVar 0, bVar 1, bVar 2] [])) (sSeq (sIf (tLend (tBool (bPrim fNe [.ex (bPrim fRepr [.sl 3]), .ex (bPrim fRepr [.sl 6])]))) (sSeq (sRet (wVal (bC (.bl false)))) (sOk .next)) (sOk .next)) (sSeq (sIf (tLend (tBool (bPrim fNe [.ex (bTup [eFrz (wCall F__law_side [] ar2 [bVar 3, bC (.int 1)] []), eFrz (wCall F__law_side [] ar2 [bVar 3, bC (.int 2)] []), eFrz (wCall F__law_side [] ar2 [bVar 3, bC (.int 3)] [])]), .ex (bTup [bVar 0, bVar 1, bVar 2])]))) (sSeq (sRet (wVal (bC (.bl false)))) (sOk .next)) (sOk .next)) (sSeq (sSet 4 (wComp (iVal (bVar 6)) [7] (.nm 7) (m__law_right_0) (m__law_right_1))) (sSeq (sSet 4 (wVal (bPrim fTuple [.ex (eFrz (wComp (iVal (bVar 4)) [7] (.nm 7) (m__law_right_2) (bVar 7)))]))) (sSeq (sDrop (mMut 3 mfAppend [bTup [bC (.str "stay"), bTup [bC (.str "a")]]])) (sSeq (sDrop (mMut 3 mfReverse [])) (sSeq (sIf (tOrB (tBool (bPrim fNe [.ex (bPrim fRepr [.ex (eFrz (wCall F_clashes [] ar3 [bVar 0, bVar 1, bVar 2] []))]), .ex (bPrim fRepr [.sl 4])])) (tBool (bPrim fNe [.ex (bPrim fRepr [.ex (eFrz (wCall F_parts_of [] ar3 [bVar 0, bVar 1, bVar 2] []))]), .ex (bPrim fRepr [.sl 6])]))) (sSeq (sRet (wVal (bC (.bl false)))) (sOk .next)) (sOk .next)) (sSeq (sRet (wVal (bPrim fEq [.ex (bPrim fRepr [.ex (eFrz (wLst [bVar 0, bVar 1, bVar 2]))]), .sl 5]))) (sOk .next))))))))))
def F__law_right : Fsem := fsem 8 m__law_right
abbrev I__law_right : FnI := ⟨["base", "left", "right"], F__law_right, [], [(3, [], ar3)]⟩
theorem b__law_right {Z : En} {k : Nat} {X : Cx} {W : WX} {ent : Ent} (a__law_parts : FnAt Z.P Z.w Z.K Z.mg Z.base k "_law_parts" I__law_parts) (a_parts_of : FnAt Z.P Z.w Z.K Z.mg Z.base k "parts_of" I_parts_of) (a__law_side : FnAt Z.P Z.w Z.K Z.mg Z.base k "_law_side" I__law_side) (a_clashes : FnAt Z.P Z.w Z.K Z.mg Z.base k "clashes" I_clashes) (n_repr : Z.mg "repr" = none) (n_tuple : Z.mg "tuple" = none)  (c : Dx Z ["base", "left", "right", "told", "clashing", "before", "due", "part"] (defScope s__law_right) k X W) : PSs X (defBody s__law_right) (rdS X.gb W ent m__law_right) := by
  have c0 := c.toBx
  exact (semB_cons (spar2 c0 5 6 (by decide) (by decide +kernel) (by decide +kernel) (wxc (fun ent => (semW_val (sem_bi c0 (c_repr c0.gua) (ok_repr (hu66 c0)) (by decide +kernel) n_repr (by decide +kernel) (opc (ox (sem_frz (semW_lst (pa_ops (opc (ox (xv c0 0 (by decide +kernel))) (opc (ox (xv c0 1 (by decide +kernel))) (opc (ox (xv c0 2 (by decide +kernel))) opn))))))) opn)))) (wxc (fun ent => (xcall c0 a__law_parts (by decide +kernel) (List.mem_singleton.mpr rfl) (opc (ox (xv c0 0 (by decide +kernel))) (opc (ox (xv c0 1 (by decide +kernel))) (opc (ox (xv c0 2 (by decide +kernel))) opn))) .nil)) wxn)) (by decide +kernel)) (semB_cons (sset c0 3 (by decide +kernel) (xcall c0 a_parts_of (by decide +kernel) (List.mem_singleton.mpr rfl) (opc (ox (xv c0 0 (by decide +kernel))) (opc (ox (xv c0 1 (by decide +kernel))) (opc (ox (xv c0 2 (by decide +kernel))) opn))) .nil)) (semB_cons (semS_if (semT_lend fun ent => (semT_cmp (op_neA (hu64 c0)) ok_ne (ox (sem_bi c0 (c_repr c0.gua) (ok_repr (hu66 c0)) (by decide +kernel) n_repr (by decide +kernel) (opc (ov c0 3 (by decide +kernel)) opn))) (ox (sem_bi c0 (c_repr c0.gua) (ok_repr (hu66 c0)) (by decide +kernel) n_repr (by decide +kernel) (opc (ov c0 6 (by decide +kernel)) opn))) (by rfl))) (semB_cons (semS_ret (semW_val xb)) semB_nil) semB_nil) (semB_cons (semS_if (semT_lend fun ent => (semT_cmp (op_neA (hu64 c0)) ok_ne (ox (sem_tup (pa_ops (opc (ox (sem_frz (xcall c0 a__law_side (by decide +kernel) (List.mem_singleton.mpr rfl) (opc (ox (xv c0 3 (by decide +kernel))) (opc (ox xi) opn)) .nil))) (opc (ox (sem_frz (xcall c0 a__law_side (by decide +kernel) (List.mem_singleton.mpr rfl) (opc (ox (xv c0 3 (by decide +kernel))) (opc (ox xi) opn)) .nil))) (opc (ox (sem_frz (xcall c0 a__law_side (by decide +kernel) (List.mem_singleton.mpr rfl) (opc (ox (xv c0 3 (by decide +kernel))) (opc (ox xi) opn)) .nil))) opn)))))) (ox (sem_tup (pa_ops (opc (ox (xv c0 0 (by decide +kernel))) (opc (ox (xv c0 1 (by decide +kernel))) (opc (ox (xv c0 2 (by decide +kernel))) opn)))))) (by rfl))) (semB_cons (semS_ret (semW_val xb)) semB_nil) semB_nil) (semB_cons (semS_setLc c0 (by decide +kernel) (sw_lc (i := 4) c0 (by decide +kernel) (by decide +kernel)) [("part", 7)] (by decide +kernel) (semI_val (xv c0 6 (by decide +kernel))) tg_nm rfl fun s1 H1 C1 cl1 fp1 c1 => ⟨(gn c1 7 (by decide +kernel)), (.one fun ent => ((semW_and (semT_cmp (op_eqA (hu64 c1)) ok_eq (ox (sem_ix (ix_all (hu65 c1)) ok_ix (ov c1 7 (by decide +kernel)) (ox xi) (by intro _ _; rfl))) (ox xs) (by rfl)) (semW_and (semT_cmp (op_neA (hu64 c1)) ok_ne (ox (sem_ix (ix_all (hu65 c1)) ok_ix (ov c1 7 (by decide +kernel)) (ox xi) (by intro _ _; rfl))) (ox (sem_ix (ix_all (hu65 c1)) ok_ix (ov c1 7 (by decide +kernel)) (ox xi) (by intro _ _; rfl))) (by rfl)) (semW_one (semT_cmp (op_neA (hu64 c1)) ok_ne (ox (sem_ix (ix_all (hu65 c1)) ok_ix (ov c1 7 (by decide +kernel)) (ox xi) (by intro _ _; rfl))) (ox (sem_ix (ix_all (hu65 c1)) ok_ix (ov c1 7 (by decide +kernel)) (ox xi) (by intro _ _; rfl))) (by rfl)))))).pt), fun ent => (sem_sl10 (ov c1 7 (by decide +kernel)) xi)⟩) (semB_cons (sset c0 4 (by decide +kernel) (semW_val (sem_bt c0 call_tuple_of ok_tuple (by decide +kernel) n_tuple (by decide +kernel) (opc (ox (sem_frz (semW_lc c0 [("part", 7)] (by decide +kernel) (semI_val (xv c0 4 (by decide +kernel))) tg_nm rfl fun s2 H2 C2 cl2 fp2 c2 => ⟨(gn c2 7 (by decide +kernel)), (.one fun ent => (semT_cmp (op_neA (hu64 c2)) ok_ne (ox (sem_ix (ix_all (hu65 c2)) ok_ix (ov c2 7 (by decide +kernel)) (ox xi) (by intro _ _; rfl))) (ox (sem_ix (ix_all (hu65 c2)) ok_ix (ov c2 7 (by decide +kernel)) (ox xi) (by intro _ _; rfl))) (by rfl))), fun ent => (xv c2 7 (by decide +kernel))⟩))) opn)))) (semB_cons (semS_drop (sem_lm c0 PySem.F.slot_list_append PySem.F.type_list_append mt_append ok_append (by decide +kernel) (opc (ox (sem_tup (pa_ops (opc (ox xs) (opc (ox (sem_tup (pa_ops (opc (ox xs) opn)))) opn))))) opn)) (by rfl)) (semB_cons (semS_drop (sem_lm0 c0 PySem.F.slot_list_reverse PySem.F.type_list_reverse mt_reverse ok_reverse (by decide +kernel)) (by rfl)) (semB_cons (semS_if ((semW_or (semT_cmp (op_neA (hu64 c0)) ok_ne (ox (sem_bi c0 (c_repr c0.gua) (ok_repr (hu66 c0)) (by decide +kernel) n_repr (by decide +kernel) (opc (ox (sem_frz (xcall c0 a_clashes (by decide +kernel) (List.mem_singleton.mpr rfl) (opc (ox (xv c0 0 (by decide +kernel))) (opc (ox (xv c0 1 (by decide +kernel))) (opc (ox (xv c0 2 (by decide +kernel))) opn))) .nil))) opn))) (ox (sem_bi c0 (c_repr c0.gua) (ok_repr (hu66 c0)) (by decide +kernel) n_repr (by decide +kernel) (opc (ov c0 4 (by decide +kernel)) opn))) (by rfl)) (semW_one (semT_cmp (op_neA (hu64 c0)) ok_ne (ox (sem_bi c0 (c_repr c0.gua) (ok_repr (hu66 c0)) (by decide +kernel) n_repr (by decide +kernel) (opc (ox (sem_frz (xcall c0 a_parts_of (by decide +kernel) (List.mem_singleton.mpr rfl) (opc (ox (xv c0 0 (by decide +kernel))) (opc (ox (xv c0 1 (by decide +kernel))) (opc (ox (xv c0 2 (by decide +kernel))) opn))) .nil))) opn))) (ox (sem_bi c0 (c_repr c0.gua) (ok_repr (hu66 c0)) (by decide +kernel) n_repr (by decide +kernel) (opc (ov c0 6 (by decide +kernel)) opn))) (by rfl))))).pt (semB_cons (semS_ret (semW_val xb)) semB_nil) semB_nil) (semB_cons (semS_ret (semW_val (sem_cmp (op_eqA (hu64 c0)) ok_eq (ox (sem_bi c0 (c_repr c0.gua) (ok_repr (hu66 c0)) (by decide +kernel) n_repr (by decide +kernel) (opc (ox (sem_frz (semW_lst (pa_ops (opc (ox (xv c0 0 (by decide +kernel))) (opc (ox (xv c0 1 (by decide +kernel))) (opc (ox (xv c0 2 (by decide +kernel))) opn))))))) opn))) (ov c0 5 (by decide +kernel)) (by rfl)))) semB_nil))))))))))
theorem t__law_right {Z : En} {k : Nat} {fa : Addr} {fd : FuncData} (a__law_parts : FnAt Z.P Z.w Z.K Z.mg Z.base k "_law_parts" I__law_parts) (a_parts_of : FnAt Z.P Z.w Z.K Z.mg Z.base k "parts_of" I_parts_of) (a__law_side : FnAt Z.P Z.w Z.K Z.mg Z.base k "_law_side" I__law_side) (a_clashes : FnAt Z.P Z.w Z.K Z.mg Z.base k "clashes" I_clashes) (n_repr : Z.mg "repr" = none) (n_tuple : Z.mg "tuple" = none)  (F : L2.Fun Z.K "_law_right" "_law_right" s__law_right fa fd) (g : Z.mg "_law_right" = some (.ref fa)) : FnAt Z.P Z.w Z.K Z.mg Z.base (k + 1) "_law_right" I__law_right :=
  fnAt_fun F g sc__law_right ar3 rfl (fun _ _ _ _ _ _ us h => match us, h with | [_, _, _], _ => rfl) (fun us h => match us, h with | [_, _, _], _ => rfl) fun X W ent c => b__law_right a__law_parts a_parts_of a__law_side a_clashes n_repr n_tuple c

abbrev s_law : Stmt := topS 28
theorem sc_law : FnScope ["script", "draw", "turn", "pool", "base", "left", "right", "k"] ["script"] (defScope s_law) := ⟨rfl, rfl, rfl, by decide +kernel, rfl, by decide +kernel, by decide +kernel⟩
def m_law_0 : Ex := eFrz (wCall F__law_line [] ar1 [bVar 1] [])
def m_law_1 : Sm := sSeq (sSet 3 (wComp (iRange range1 [.ex (bPrim fAdd [.ex (bC (.int 1)), .ex (eFrz (wCall F__law_next [] ar2 [bVar 1, bC (.int 6)] []))])]) [7] (.nm 7) bTT (m_law_0))) (sSeq (sSet 4 (wCall F__law_lines [] ar3 [bVar 1, bVar 3, bC (.int 10)] [])) (sSeq (sSet 5 (wCall F__law_changed [] ar4 [bVar 1, bVar 4, bVar 3, eFrz (wCall F__law_next [] ar2 [bVar 1, bC (.int 6)] [])] [])) (sSeq (sSet 6 (wCall F__law_changed [] ar4 [bVar 1, bPrim fIx [.ex (eFrz (wLst [bVar 4, bVar 4, bVar 5])), .ex (eFrz (wCall F__law_next [] ar2 [bVar 1, bC (.int 3)] []))], bVar 3, eFrz (wCall F__law_next [] ar2 [bVar 1, bC (.int 6)] [])] [])) (sSeq (sSet 6 (wIf (tBool (bPrim fGt [.ex (eFrz (wCall F__law_next [] ar2 [bVar 1, bC (.int 6)] [])), .ex (bC (.int 0))])) (wVal (bVar 6)) (wCall F__law_lines [] ar3 [bVar 1, bVar 3, bC (.int 10)] []))) (sSeq (sIf (tOrB (tNotB (tTru (.ex (eFrz (wCall F__law_right [] ar3 [bVar 4, bVar 5, bVar 6] []))))) (tNotB (tTru (.ex (eFrz (wCall F__law_right [] ar3 [bVar 4, bVar 6, bVar 5] [])))))) (sSeq (sRet (wVal (bC (.bl false)))) (sOk .next)) (sOk .next)) (sOk .next))))))
def m_law : Sm := sSeq (sSet 1 (wCall F__law_begin [] ar1 [bVar 0] [])) (sSeq (sFor (iRange range1 [.ex (bC (.int 4))]) (.nm 2) (m_law_1)) (sSeq (sRet (wVal (bC (.bl true)))) (sOk .next)))
def F_law : Fsem := fsem 8 m_law
abbrev I_law : FnI := ⟨["script"], F_law, [], [(1, [], ar1)]⟩
theorem b_law {Z : En} {k : Nat} {X : Cx} {W : WX} {ent : Ent} (a__law_begin : FnAt Z.P Z.w Z.K Z.mg Z.base k "_law_begin" I__law_begin) (a__law_next : FnAt Z.P Z.w Z.K Z.mg Z.base k "_law_next" I__law_next) (a__law_line : FnAt Z.P Z.w Z.K Z.mg Z.base k "_law_line" I__law_line) (a__law_lines : FnAt Z.P Z.w Z.K Z.mg Z.base k "_law_lines" I__law_lines) (a__law_changed : FnAt Z.P Z.w Z.K Z.mg Z.base k "_law_changed" I__law_changed) (a__law_right : FnAt Z.P Z.w Z.K Z.mg Z.base k "_law_right" I__law_right) (n_range : Z.mg "range" = none)  (c : Dx Z ["script", "draw", "turn", "pool", "base", "left", "right", "k"] (defScope s_law) k X W) : PSs X (defBody s_law) (rdS X.gb W ent m_law) := by
  have c0 := c.toBx
  exact (semB_cons (sset c0 1 (by decide +kernel) (xcall c0 a__law_begin (by decide +kernel) (List.mem_singleton.mpr rfl) (opc (ox (xv c0 0 (by decide +kernel))) opn) .nil)) (semB_cons (sfor c (semI_range1 (Gl.of c0 (by decide +kernel)) (mgN c0 n_range) (opc (ox xi) opn) rfl) (gn c0 2 (by decide +kernel)) tg_nm (semB_cons (semS_setLc c0 (by decide +kernel) (sw_lc (i := 3) c0 (by decide +kernel) (by decide +kernel)) [("k", 7)] (by decide +kernel) (semI_range1 (Gl.of c0 (by decide +kernel)) (mgN c0 n_range) (opc (ox (sem_bin op_addD fr_add.ok (ox xi) (ox (sem_frz (xcall c0 a__law_next (by decide +kernel) (List.mem_singleton.mpr rfl) (opc (ox (xv c0 1 (by decide +kernel))) (opc (ox xi) opn)) .nil))))) opn) rfl) tg_nm rfl fun s1 H1 C1 cl1 fp1 c1 => ⟨(gn c1 7 (by decide +kernel)), .nil, fun ent => (sem_frz (xcall c1 a__law_line (by decide +kernel) (List.mem_singleton.mpr rfl) (opc (ox (xv c1 1 (by decide +kernel))) opn) .nil))⟩) (semB_cons (sset c0 4 (by decide +kernel) (xcall c0 a__law_lines (by decide +kernel) (List.mem_singleton.mpr rfl) (opc (ox (xv c0 1 (by decide +kernel))) (opc (ox (xv c0 3 (by decide +kernel))) (opc (ox xi) opn))) .nil)) (semB_cons (sset c0 5 (by decide +kernel) (xcall c0 a__law_changed (by decide +kernel) (List.mem_singleton.mpr rfl) (opc (ox (xv c0 1 (by decide +kernel))) (opc (ox (xv c0 4 (by decide +kernel))) (opc (ox (xv c0 3 (by decide +kernel))) (opc (ox (sem_frz (xcall c0 a__law_next (by decide +kernel) (List.mem_singleton.mpr rfl) (opc (ox (xv c0 1 (by decide +kernel))) (opc (ox xi) opn)) .nil))) opn)))) .nil)) (semB_cons (sset c0 6 (by decide +kernel) (xcall c0 a__law_changed (by decide +kernel) (List.mem_singleton.mpr rfl) (opc (ox (xv c0 1 (by decide +kernel))) (opc (ox (sem_ix (ix_all (hu65 c0)) ok_ix (ox (sem_frz (semW_lst (pa_ops (opc (ox (xv c0 4 (by decide +kernel))) (opc (ox (xv c0 4 (by decide +kernel))) (opc (ox (xv c0 5 (by decide +kernel))) opn))))))) (ox (sem_frz (xcall c0 a__law_next (by decide +kernel) (List.mem_singleton.mpr rfl) (opc (ox (xv c0 1 (by decide +kernel))) (opc (ox xi) opn)) .nil))) (by intro _ _; rfl))) (opc (ox (xv c0 3 (by decide +kernel))) (opc (ox (sem_frz (xcall c0 a__law_next (by decide +kernel) (List.mem_singleton.mpr rfl) (opc (ox (xv c0 1 (by decide +kernel))) (opc (ox xi) opn)) .nil))) opn)))) .nil)) (semB_cons (sset c0 6 (by decide +kernel) (semW_if (semT_cmp op_gtD ok_ord (ox (sem_frz (xcall c0 a__law_next (by decide +kernel) (List.mem_singleton.mpr rfl) (opc (ox (xv c0 1 (by decide +kernel))) (opc (ox xi) opn)) .nil))) (ox xi) (by rfl)) (semW_val (xv c0 6 (by decide +kernel))) (xcall c0 a__law_lines (by decide +kernel) (List.mem_singleton.mpr rfl) (opc (ox (xv c0 1 (by decide +kernel))) (opc (ox (xv c0 3 (by decide +kernel))) (opc (ox xi) opn))) .nil))) (semB_cons (semS_if ((semW_or (semT_not (semT_tru (ox (sem_frz (xcall c0 a__law_right (by decide +kernel) (List.mem_singleton.mpr rfl) (opc (ox (xv c0 4 (by decide +kernel))) (opc (ox (xv c0 5 (by decide +kernel))) (opc (ox (xv c0 6 (by decide +kernel))) opn))) .nil))) (fun _ => rfl))) (semW_one (semT_not (semT_tru (ox (sem_frz (xcall c0 a__law_right (by decide +kernel) (List.mem_singleton.mpr rfl) (opc (ox (xv c0 4 (by decide +kernel))) (opc (ox (xv c0 6 (by decide +kernel))) (opc (ox (xv c0 5 (by decide +kernel))) opn))) .nil))) (fun _ => rfl)))))).pt (semB_cons (semS_ret (semW_val xb)) semB_nil) semB_nil) semB_nil))))))) (semB_cons (semS_ret (semW_val xb)) semB_nil)))
theorem t_law {Z : En} {k : Nat} {fa : Addr} {fd : FuncData} (a__law_begin : FnAt Z.P Z.w Z.K Z.mg Z.base k "_law_begin" I__law_begin) (a__law_next : FnAt Z.P Z.w Z.K Z.mg Z.base k "_law_next" I__law_next) (a__law_line : FnAt Z.P Z.w Z.K Z.mg Z.base k "_law_line" I__law_line) (a__law_lines : FnAt Z.P Z.w Z.K Z.mg Z.base k "_law_lines" I__law_lines) (a__law_changed : FnAt Z.P Z.w Z.K Z.mg Z.base k "_law_changed" I__law_changed) (a__law_right : FnAt Z.P Z.w Z.K Z.mg Z.base k "_law_right" I__law_right) (n_range : Z.mg "range" = none)  (F : L2.Fun Z.K "law" "law" s_law fa fd) (g : Z.mg "law" = some (.ref fa)) : FnAt Z.P Z.w Z.K Z.mg Z.base (k + 1) "law" I_law :=
  fnAt_fun F g sc_law ar1 rfl (fun _ _ _ _ _ _ us h => match us, h with | [_], _ => rfl) (fun us h => match us, h with | [_], _ => rfl) fun X W ent c => b_law a__law_begin a__law_next a__law_line a__law_lines a__law_changed a__law_right n_range c
end TM.K15
namespace TM.K15
open PySem PySem.Spec L2 TM TM.Ln
open PyProof.Rows hiding St
theorem all_of {l : PySem.W.OpenLaw} {w : World} {K : PySem.W.Frag} {h : Heap} {mg : Str → Option Value} {fa : Addr} (X : K.In h) (G : h.Ns mainGlobals mg) (hfa : mg "law" = some (.ref fa))
    {f__law_begin : Addr} {od__law_begin an__law_begin : Option Addr} {sl__law_begin : Array (Option Value)} {oc__law_begin kV__law_begin dc__law_begin pm__law_begin cd__law_begin ct__law_begin : Value} (x1__law_begin : PySem.W.nsIn K mainGlobals "_law_begin" = some (some (.ref f__law_begin))) (x2__law_begin : K.lookup f__law_begin = some ⟨oc__law_begin, od__law_begin, .func (PySem.W.fnOf "_law_begin" "_law_begin" (defArgs s__law_begin) (defBody s__law_begin) (defScope s__law_begin) .none kV__law_begin dc__law_begin pm__law_begin an__law_begin cd__law_begin ct__law_begin), sl__law_begin⟩) (x3__law_begin : PySem.W.codeIn K cd__law_begin "_law_begin" = true) (x4__law_begin : PySem.W.keepIn K (.ref f__law_begin) = true)
    {f__law_mixed : Addr} {od__law_mixed an__law_mixed : Option Addr} {sl__law_mixed : Array (Option Value)} {oc__law_mixed kV__law_mixed dc__law_mixed pm__law_mixed cd__law_mixed ct__law_mixed : Value} (x1__law_mixed : PySem.W.nsIn K mainGlobals "_law_mixed" = some (some (.ref f__law_mixed))) (x2__law_mixed : K.lookup f__law_mixed = some ⟨oc__law_mixed, od__law_mixed, .func (PySem.W.fnOf "_law_mixed" "_law_mixed" (defArgs s__law_mixed) (defBody s__law_mixed) (defScope s__law_mixed) .none kV__law_mixed dc__law_mixed pm__law_mixed an__law_mixed cd__law_mixed ct__law_mixed), sl__law_mixed⟩) (x3__law_mixed : PySem.W.codeIn K cd__law_mixed "_law_mixed" = true) (x4__law_mixed : PySem.W.keepIn K (.ref f__law_mixed) = true)
    {f__law_next : Addr} {od__law_next an__law_next : Option Addr} {sl__law_next : Array (Option Value)} {oc__law_next kV__law_next dc__law_next pm__law_next cd__law_next ct__law_next : Value} (x1__law_next : PySem.W.nsIn K mainGlobals "_law_next" = some (some (.ref f__law_next))) (x2__law_next : K.lookup f__law_next = some ⟨oc__law_next, od__law_next, .func (PySem.W.fnOf "_law_next" "_law_next" (defArgs s__law_next) (defBody s__law_next) (defScope s__law_next) .none kV__law_next dc__law_next pm__law_next an__law_next cd__law_next ct__law_next), sl__law_next⟩) (x3__law_next : PySem.W.codeIn K cd__law_next "_law_next" = true) (x4__law_next : PySem.W.keepIn K (.ref f__law_next) = true)
    {f__law_line : Addr} {od__law_line an__law_line : Option Addr} {sl__law_line : Array (Option Value)} {oc__law_line kV__law_line dc__law_line pm__law_line cd__law_line ct__law_line : Value} (x1__law_line : PySem.W.nsIn K mainGlobals "_law_line" = some (some (.ref f__law_line))) (x2__law_line : K.lookup f__law_line = some ⟨oc__law_line, od__law_line, .func (PySem.W.fnOf "_law_line" "_law_line" (defArgs s__law_line) (defBody s__law_line) (defScope s__law_line) .none kV__law_line dc__law_line pm__law_line an__law_line cd__law_line ct__law_line), sl__law_line⟩) (x3__law_line : PySem.W.codeIn K cd__law_line "_law_line" = true) (x4__law_line : PySem.W.keepIn K (.ref f__law_line) = true)
    {f__law_lines : Addr} {od__law_lines an__law_lines : Option Addr} {sl__law_lines : Array (Option Value)} {oc__law_lines kV__law_lines dc__law_lines pm__law_lines cd__law_lines ct__law_lines : Value} (x1__law_lines : PySem.W.nsIn K mainGlobals "_law_lines" = some (some (.ref f__law_lines))) (x2__law_lines : K.lookup f__law_lines = some ⟨oc__law_lines, od__law_lines, .func (PySem.W.fnOf "_law_lines" "_law_lines" (defArgs s__law_lines) (defBody s__law_lines) (defScope s__law_lines) .none kV__law_lines dc__law_lines pm__law_lines an__law_lines cd__law_lines ct__law_lines), sl__law_lines⟩) (x3__law_lines : PySem.W.codeIn K cd__law_lines "_law_lines" = true) (x4__law_lines : PySem.W.keepIn K (.ref f__law_lines) = true)
    {f__law_changed : Addr} {od__law_changed an__law_changed : Option Addr} {sl__law_changed : Array (Option Value)} {oc__law_changed kV__law_changed dc__law_changed pm__law_changed cd__law_changed ct__law_changed : Value} (x1__law_changed : PySem.W.nsIn K mainGlobals "_law_changed" = some (some (.ref f__law_changed))) (x2__law_changed : K.lookup f__law_changed = some ⟨oc__law_changed, od__law_changed, .func (PySem.W.fnOf "_law_changed" "_law_changed" (defArgs s__law_changed) (defBody s__law_changed) (defScope s__law_changed) .none kV__law_changed dc__law_changed pm__law_changed an__law_changed cd__law_changed ct__law_changed), sl__law_changed⟩) (x3__law_changed : PySem.W.codeIn K cd__law_changed "_law_changed" = true) (x4__law_changed : PySem.W.keepIn K (.ref f__law_changed) = true)
    {f__law_table : Addr} {od__law_table an__law_table : Option Addr} {sl__law_table : Array (Option Value)} {oc__law_table kV__law_table dc__law_table pm__law_table cd__law_table ct__law_table : Value} (x1__law_table : PySem.W.nsIn K mainGlobals "_law_table" = some (some (.ref f__law_table))) (x2__law_table : K.lookup f__law_table = some ⟨oc__law_table, od__law_table, .func (PySem.W.fnOf "_law_table" "_law_table" (defArgs s__law_table) (defBody s__law_table) (defScope s__law_table) .none kV__law_table dc__law_table pm__law_table an__law_table cd__law_table ct__law_table), sl__law_table⟩) (x3__law_table : PySem.W.codeIn K cd__law_table "_law_table" = true) (x4__law_table : PySem.W.keepIn K (.ref f__law_table) = true)
    {f__law_row : Addr} {od__law_row an__law_row : Option Addr} {sl__law_row : Array (Option Value)} {oc__law_row kV__law_row dc__law_row pm__law_row cd__law_row ct__law_row : Value} (x1__law_row : PySem.W.nsIn K mainGlobals "_law_row" = some (some (.ref f__law_row))) (x2__law_row : K.lookup f__law_row = some ⟨oc__law_row, od__law_row, .func (PySem.W.fnOf "_law_row" "_law_row" (defArgs s__law_row) (defBody s__law_row) (defScope s__law_row) .none kV__law_row dc__law_row pm__law_row an__law_row cd__law_row ct__law_row), sl__law_row⟩) (x3__law_row : PySem.W.codeIn K cd__law_row "_law_row" = true) (x4__law_row : PySem.W.keepIn K (.ref f__law_row) = true)
    {f__law_stays : Addr} {od__law_stays an__law_stays : Option Addr} {sl__law_stays : Array (Option Value)} {oc__law_stays kV__law_stays dc__law_stays pm__law_stays cd__law_stays ct__law_stays : Value} (x1__law_stays : PySem.W.nsIn K mainGlobals "_law_stays" = some (some (.ref f__law_stays))) (x2__law_stays : K.lookup f__law_stays = some ⟨oc__law_stays, od__law_stays, .func (PySem.W.fnOf "_law_stays" "_law_stays" (defArgs s__law_stays) (defBody s__law_stays) (defScope s__law_stays) .none kV__law_stays dc__law_stays pm__law_stays an__law_stays cd__law_stays ct__law_stays), sl__law_stays⟩) (x3__law_stays : PySem.W.codeIn K cd__law_stays "_law_stays" = true) (x4__law_stays : PySem.W.keepIn K (.ref f__law_stays) = true)
    {f__law_parts : Addr} {od__law_parts an__law_parts : Option Addr} {sl__law_parts : Array (Option Value)} {oc__law_parts kV__law_parts dc__law_parts pm__law_parts cd__law_parts ct__law_parts : Value} (x1__law_parts : PySem.W.nsIn K mainGlobals "_law_parts" = some (some (.ref f__law_parts))) (x2__law_parts : K.lookup f__law_parts = some ⟨oc__law_parts, od__law_parts, .func (PySem.W.fnOf "_law_parts" "_law_parts" (defArgs s__law_parts) (defBody s__law_parts) (defScope s__law_parts) .none kV__law_parts dc__law_parts pm__law_parts an__law_parts cd__law_parts ct__law_parts), sl__law_parts⟩) (x3__law_parts : PySem.W.codeIn K cd__law_parts "_law_parts" = true) (x4__law_parts : PySem.W.keepIn K (.ref f__law_parts) = true)
    {f_is_lines : Addr} {od_is_lines an_is_lines : Option Addr} {sl_is_lines : Array (Option Value)} {oc_is_lines kV_is_lines dc_is_lines pm_is_lines cd_is_lines ct_is_lines : Value} (x1_is_lines : PySem.W.nsIn K mainGlobals "is_lines" = some (some (.ref f_is_lines))) (x2_is_lines : K.lookup f_is_lines = some ⟨oc_is_lines, od_is_lines, .func (PySem.W.fnOf "is_lines" "is_lines" (defArgs s_is_lines) (defBody s_is_lines) (defScope s_is_lines) .none kV_is_lines dc_is_lines pm_is_lines an_is_lines cd_is_lines ct_is_lines), sl_is_lines⟩) (x3_is_lines : PySem.W.codeIn K cd_is_lines "is_lines" = true) (x4_is_lines : PySem.W.keepIn K (.ref f_is_lines) = true)
    {f_need_lines : Addr} {od_need_lines an_need_lines : Option Addr} {sl_need_lines : Array (Option Value)} {oc_need_lines kV_need_lines dc_need_lines pm_need_lines cd_need_lines ct_need_lines : Value} (x1_need_lines : PySem.W.nsIn K mainGlobals "need_lines" = some (some (.ref f_need_lines))) (x2_need_lines : K.lookup f_need_lines = some ⟨oc_need_lines, od_need_lines, .func (PySem.W.fnOf "need_lines" "need_lines" (defArgs s_need_lines) (defBody s_need_lines) (defScope s_need_lines) .none kV_need_lines dc_need_lines pm_need_lines an_need_lines cd_need_lines ct_need_lines), sl_need_lines⟩) (x3_need_lines : PySem.W.codeIn K cd_need_lines "need_lines" = true) (x4_need_lines : PySem.W.keepIn K (.ref f_need_lines) = true)
    {f_longest : Addr} {od_longest an_longest : Option Addr} {sl_longest : Array (Option Value)} {oc_longest kV_longest dc_longest pm_longest cd_longest ct_longest : Value} (x1_longest : PySem.W.nsIn K mainGlobals "longest" = some (some (.ref f_longest))) (x2_longest : K.lookup f_longest = some ⟨oc_longest, od_longest, .func (PySem.W.fnOf "longest" "longest" (defArgs s_longest) (defBody s_longest) (defScope s_longest) .none kV_longest dc_longest pm_longest an_longest cd_longest ct_longest), sl_longest⟩) (x3_longest : PySem.W.codeIn K cd_longest "longest" = true) (x4_longest : PySem.W.keepIn K (.ref f_longest) = true)
    {f_alike : Addr} {od_alike an_alike : Option Addr} {sl_alike : Array (Option Value)} {oc_alike kV_alike dc_alike pm_alike cd_alike ct_alike : Value} (x1_alike : PySem.W.nsIn K mainGlobals "alike" = some (some (.ref f_alike))) (x2_alike : K.lookup f_alike = some ⟨oc_alike, od_alike, .func (PySem.W.fnOf "alike" "alike" (defArgs s_alike) (defBody s_alike) (defScope s_alike) .none kV_alike dc_alike pm_alike an_alike cd_alike ct_alike), sl_alike⟩) (x3_alike : PySem.W.codeIn K cd_alike "alike" = true) (x4_alike : PySem.W.keepIn K (.ref f_alike) = true)
    {f_row_of : Addr} {od_row_of an_row_of : Option Addr} {sl_row_of : Array (Option Value)} {oc_row_of kV_row_of dc_row_of pm_row_of cd_row_of ct_row_of : Value} (x1_row_of : PySem.W.nsIn K mainGlobals "row_of" = some (some (.ref f_row_of))) (x2_row_of : K.lookup f_row_of = some ⟨oc_row_of, od_row_of, .func (PySem.W.fnOf "row_of" "row_of" (defArgs s_row_of) (defBody s_row_of) (defScope s_row_of) .none kV_row_of dc_row_of pm_row_of an_row_of cd_row_of ct_row_of), sl_row_of⟩) (x3_row_of : PySem.W.codeIn K cd_row_of "row_of" = true) (x4_row_of : PySem.W.keepIn K (.ref f_row_of) = true)
    {f_parts_by : Addr} {od_parts_by an_parts_by : Option Addr} {sl_parts_by : Array (Option Value)} {oc_parts_by kV_parts_by dc_parts_by pm_parts_by cd_parts_by ct_parts_by : Value} (x1_parts_by : PySem.W.nsIn K mainGlobals "parts_by" = some (some (.ref f_parts_by))) (x2_parts_by : K.lookup f_parts_by = some ⟨oc_parts_by, od_parts_by, .func (PySem.W.fnOf "parts_by" "parts_by" (defArgs s_parts_by) (defBody s_parts_by) (defScope s_parts_by) .none kV_parts_by dc_parts_by pm_parts_by an_parts_by cd_parts_by ct_parts_by), sl_parts_by⟩) (x3_parts_by : PySem.W.codeIn K cd_parts_by "parts_by" = true) (x4_parts_by : PySem.W.keepIn K (.ref f_parts_by) = true)
    {f_parts_of : Addr} {od_parts_of an_parts_of : Option Addr} {sl_parts_of : Array (Option Value)} {oc_parts_of kV_parts_of dc_parts_of pm_parts_of cd_parts_of ct_parts_of : Value} (x1_parts_of : PySem.W.nsIn K mainGlobals "parts_of" = some (some (.ref f_parts_of))) (x2_parts_of : K.lookup f_parts_of = some ⟨oc_parts_of, od_parts_of, .func (PySem.W.fnOf "parts_of" "parts_of" (defArgs s_parts_of) (defBody s_parts_of) (defScope s_parts_of) .none kV_parts_of dc_parts_of pm_parts_of an_parts_of cd_parts_of ct_parts_of), sl_parts_of⟩) (x3_parts_of : PySem.W.codeIn K cd_parts_of "parts_of" = true) (x4_parts_of : PySem.W.keepIn K (.ref f_parts_of) = true)
    {f__law_side : Addr} {od__law_side an__law_side : Option Addr} {sl__law_side : Array (Option Value)} {oc__law_side kV__law_side dc__law_side pm__law_side cd__law_side ct__law_side : Value} (x1__law_side : PySem.W.nsIn K mainGlobals "_law_side" = some (some (.ref f__law_side))) (x2__law_side : K.lookup f__law_side = some ⟨oc__law_side, od__law_side, .func (PySem.W.fnOf "_law_side" "_law_side" (defArgs s__law_side) (defBody s__law_side) (defScope s__law_side) .none kV__law_side dc__law_side pm__law_side an__law_side cd__law_side ct__law_side), sl__law_side⟩) (x3__law_side : PySem.W.codeIn K cd__law_side "_law_side" = true) (x4__law_side : PySem.W.keepIn K (.ref f__law_side) = true)
    {f_comes_of : Addr} {od_comes_of an_comes_of : Option Addr} {sl_comes_of : Array (Option Value)} {oc_comes_of kV_comes_of dc_comes_of pm_comes_of cd_comes_of ct_comes_of : Value} (x1_comes_of : PySem.W.nsIn K mainGlobals "comes_of" = some (some (.ref f_comes_of))) (x2_comes_of : K.lookup f_comes_of = some ⟨oc_comes_of, od_comes_of, .func (PySem.W.fnOf "comes_of" "comes_of" (defArgs s_comes_of) (defBody s_comes_of) (defScope s_comes_of) .none kV_comes_of dc_comes_of pm_comes_of an_comes_of cd_comes_of ct_comes_of), sl_comes_of⟩) (x3_comes_of : PySem.W.codeIn K cd_comes_of "comes_of" = true) (x4_comes_of : PySem.W.keepIn K (.ref f_comes_of) = true)
    {f_clashes : Addr} {od_clashes an_clashes : Option Addr} {sl_clashes : Array (Option Value)} {oc_clashes kV_clashes dc_clashes pm_clashes cd_clashes ct_clashes : Value} (x1_clashes : PySem.W.nsIn K mainGlobals "clashes" = some (some (.ref f_clashes))) (x2_clashes : K.lookup f_clashes = some ⟨oc_clashes, od_clashes, .func (PySem.W.fnOf "clashes" "clashes" (defArgs s_clashes) (defBody s_clashes) (defScope s_clashes) .none kV_clashes dc_clashes pm_clashes an_clashes cd_clashes ct_clashes), sl_clashes⟩) (x3_clashes : PySem.W.codeIn K cd_clashes "clashes" = true) (x4_clashes : PySem.W.keepIn K (.ref f_clashes) = true)
    {f__law_right : Addr} {od__law_right an__law_right : Option Addr} {sl__law_right : Array (Option Value)} {oc__law_right kV__law_right dc__law_right pm__law_right cd__law_right ct__law_right : Value} (x1__law_right : PySem.W.nsIn K mainGlobals "_law_right" = some (some (.ref f__law_right))) (x2__law_right : K.lookup f__law_right = some ⟨oc__law_right, od__law_right, .func (PySem.W.fnOf "_law_right" "_law_right" (defArgs s__law_right) (defBody s__law_right) (defScope s__law_right) .none kV__law_right dc__law_right pm__law_right an__law_right cd__law_right ct__law_right), sl__law_right⟩) (x3__law_right : PySem.W.codeIn K cd__law_right "_law_right" = true) (x4__law_right : PySem.W.keepIn K (.ref f__law_right) = true)
    {f_law : Addr} {od_law an_law : Option Addr} {sl_law : Array (Option Value)} {oc_law kV_law dc_law pm_law cd_law ct_law : Value} (x1_law : PySem.W.nsIn K mainGlobals "law" = some (some (.ref f_law))) (x2_law : K.lookup f_law = some ⟨oc_law, od_law, .func (PySem.W.fnOf "law" "law" (defArgs s_law) (defBody s_law) (defScope s_law) .none kV_law dc_law pm_law an_law cd_law ct_law), sl_law⟩) (x3_law : PySem.W.codeIn K cd_law "law" = true) (x4_law : PySem.W.keepIn K (.ref f_law) = true)
    (z_len : PySem.W.nsIn K mainGlobals "len" = some none)
    (z_range : PySem.W.nsIn K mainGlobals "range" = some none)
    (z_tuple : PySem.W.nsIn K mainGlobals "tuple" = some none)
    (z_list : PySem.W.nsIn K mainGlobals "list" = some none)
    (z_max : PySem.W.nsIn K mainGlobals "max" = some none)
    (z_isinstance : PySem.W.nsIn K mainGlobals "isinstance" = some none)
    (z_str : PySem.W.nsIn K mainGlobals "str" = some none)
    (z_all : PySem.W.nsIn K mainGlobals "all" = some none)
    (z_enumerate : PySem.W.nsIn K mainGlobals "enumerate" = some none)
    (z_dict : PySem.W.nsIn K mainGlobals "dict" = some none)
    (z_repr : PySem.W.nsIn K mainGlobals "repr" = some none)
    {tk_MOST_LINES : Tok} (v_MOST_LINES : PySem.W.nsIn K mainGlobals "MOST_LINES" = some (some (.int 60 tk_MOST_LINES)))
    {tk_MOST_SIGNS : Tok} (v_MOST_SIGNS : PySem.W.nsIn K mainGlobals "MOST_SIGNS" = some (some (.int 80 tk_MOST_SIGNS))) :
    ∃ fd : FuncData, (∀ (s : Shared) (v : Value), BindsTo s fd ⟨[v], []⟩ [("script", v)]) ∧ ∀ base : Heap, K.In base → base.Ns mainGlobals mg → FnG l.prog w K mg base 7 fa fd ["script"] (spD ⟨K, mg⟩ 1 F_law) := by
  have e := hfa.symm.trans (PySem.W.mg_of X G x1_law)
  cases e
  have R__law_begin := fun_mk (st := s__law_begin) x2__law_begin x3__law_begin x4__law_begin
  have R__law_mixed := fun_mk (st := s__law_mixed) x2__law_mixed x3__law_mixed x4__law_mixed
  have R__law_next := fun_mk (st := s__law_next) x2__law_next x3__law_next x4__law_next
  have R__law_line := fun_mk (st := s__law_line) x2__law_line x3__law_line x4__law_line
  have R__law_lines := fun_mk (st := s__law_lines) x2__law_lines x3__law_lines x4__law_lines
  have R__law_changed := fun_mk (st := s__law_changed) x2__law_changed x3__law_changed x4__law_changed
  have R__law_table := fun_mk (st := s__law_table) x2__law_table x3__law_table x4__law_table
  have R__law_row := fun_mk (st := s__law_row) x2__law_row x3__law_row x4__law_row
  have R__law_stays := fun_mk (st := s__law_stays) x2__law_stays x3__law_stays x4__law_stays
  have R__law_parts := fun_mk (st := s__law_parts) x2__law_parts x3__law_parts x4__law_parts
  have R_is_lines := fun_mk (st := s_is_lines) x2_is_lines x3_is_lines x4_is_lines
  have R_need_lines := fun_mk (st := s_need_lines) x2_need_lines x3_need_lines x4_need_lines
  have R_longest := fun_mk (st := s_longest) x2_longest x3_longest x4_longest
  have R_alike := fun_mk (st := s_alike) x2_alike x3_alike x4_alike
  have R_row_of := fun_mk (st := s_row_of) x2_row_of x3_row_of x4_row_of
  have R_parts_by := fun_mk (st := s_parts_by) x2_parts_by x3_parts_by x4_parts_by
  have R_parts_of := fun_mk (st := s_parts_of) x2_parts_of x3_parts_of x4_parts_of
  have R__law_side := fun_mk (st := s__law_side) x2__law_side x3__law_side x4__law_side
  have R_comes_of := fun_mk (st := s_comes_of) x2_comes_of x3_comes_of x4_comes_of
  have R_clashes := fun_mk (st := s_clashes) x2_clashes x3_clashes x4_clashes
  have R__law_right := fun_mk (st := s__law_right) x2__law_right x3__law_right x4__law_right
  have R_law := fun_mk (st := s_law) x2_law x3_law x4_law
  have n_len := PySem.W.mg_none_of X G z_len
  have n_range := PySem.W.mg_none_of X G z_range
  have n_tuple := PySem.W.mg_none_of X G z_tuple
  have n_list := PySem.W.mg_none_of X G z_list
  have n_max := PySem.W.mg_none_of X G z_max
  have n_isinstance := PySem.W.mg_none_of X G z_isinstance
  have n_str := PySem.W.mg_none_of X G z_str
  have n_all := PySem.W.mg_none_of X G z_all
  have n_enumerate := PySem.W.mg_none_of X G z_enumerate
  have n_dict := PySem.W.mg_none_of X G z_dict
  have n_repr := PySem.W.mg_none_of X G z_repr
  have g_MOST_LINES : ∃ u, mg "MOST_LINES" = some u ∧ RelV (.int 60) u := ⟨_, PySem.W.mg_of X G v_MOST_LINES, ⟨tk_MOST_LINES, rfl⟩⟩
  have g_MOST_SIGNS : ∃ u, mg "MOST_SIGNS" = some u ∧ RelV (.int 80) u := ⟨_, PySem.W.mg_of X G v_MOST_SIGNS, ⟨tk_MOST_SIGNS, rfl⟩⟩
  refine ⟨PySem.W.fnOf "law" "law" (defArgs s_law) (defBody s_law) (defScope s_law) .none kV_law dc_law pm_law an_law cd_law ct_law, fun s v => .of_eq rfl, fun base _ _ => ?_⟩
  let Z : En := ⟨l.prog, w, K, mg, base⟩
  have h__law_begin : FnAt Z.P Z.w Z.K Z.mg Z.base 1 "_law_begin" I__law_begin := t__law_begin (Z := Z) (k := 0)  R__law_begin (PySem.W.mg_of X G x1__law_begin)
  have h__law_mixed : FnAt Z.P Z.w Z.K Z.mg Z.base 1 "_law_mixed" I__law_mixed := t__law_mixed (Z := Z) (k := 0)  R__law_mixed (PySem.W.mg_of X G x1__law_mixed)
  have h__law_next : FnAt Z.P Z.w Z.K Z.mg Z.base 2 "_law_next" I__law_next := t__law_next (Z := Z) (k := 1) (h__law_mixed.mono (by decide)) n_len R__law_next (PySem.W.mg_of X G x1__law_next)
  have h__law_line : FnAt Z.P Z.w Z.K Z.mg Z.base 3 "_law_line" I__law_line := t__law_line (Z := Z) (k := 2) (h__law_next.mono (by decide)) n_range R__law_line (PySem.W.mg_of X G x1__law_line)
  have h__law_lines : FnAt Z.P Z.w Z.K Z.mg Z.base 3 "_law_lines" I__law_lines := t__law_lines (Z := Z) (k := 2) (h__law_next.mono (by decide)) n_range n_len n_tuple R__law_lines (PySem.W.mg_of X G x1__law_lines)
  have h__law_changed : FnAt Z.P Z.w Z.K Z.mg Z.base 3 "_law_changed" I__law_changed := t__law_changed (Z := Z) (k := 2) (h__law_next.mono (by decide)) n_list n_range n_len n_tuple R__law_changed (PySem.W.mg_of X G x1__law_changed)
  have h__law_table : FnAt Z.P Z.w Z.K Z.mg Z.base 1 "_law_table" I__law_table := t__law_table (Z := Z) (k := 0) n_len n_range n_max R__law_table (PySem.W.mg_of X G x1__law_table)
  have h__law_row : FnAt Z.P Z.w Z.K Z.mg Z.base 2 "_law_row" I__law_row := t__law_row (Z := Z) (k := 1) (h__law_table.mono (by decide)) n_len n_range R__law_row (PySem.W.mg_of X G x1__law_row)
  have h__law_stays : FnAt Z.P Z.w Z.K Z.mg Z.base 3 "_law_stays" I__law_stays := t__law_stays (Z := Z) (k := 2) (h__law_row.mono (by decide)) R__law_stays (PySem.W.mg_of X G x1__law_stays)
  have h__law_parts : FnAt Z.P Z.w Z.K Z.mg Z.base 4 "_law_parts" I__law_parts := t__law_parts (Z := Z) (k := 3) (h__law_stays.mono (by decide)) n_len R__law_parts (PySem.W.mg_of X G x1__law_parts)
  have h_is_lines : FnAt Z.P Z.w Z.K Z.mg Z.base 1 "is_lines" I_is_lines := t_is_lines (Z := Z) (k := 0) n_len n_tuple n_isinstance n_str n_all g_MOST_LINES g_MOST_SIGNS R_is_lines (PySem.W.mg_of X G x1_is_lines)
  have h_need_lines : FnAt Z.P Z.w Z.K Z.mg Z.base 2 "need_lines" I_need_lines := t_need_lines (Z := Z) (k := 1) (h_is_lines.mono (by decide)) R_need_lines (PySem.W.mg_of X G x1_need_lines)
  have h_longest : FnAt Z.P Z.w Z.K Z.mg Z.base 1 "longest" I_longest := t_longest (Z := Z) (k := 0) n_len n_range n_max R_longest (PySem.W.mg_of X G x1_longest)
  have h_alike : FnAt Z.P Z.w Z.K Z.mg Z.base 1 "alike" I_alike := t_alike (Z := Z) (k := 0) n_enumerate R_alike (PySem.W.mg_of X G x1_alike)
  have h_row_of : FnAt Z.P Z.w Z.K Z.mg Z.base 2 "row_of" I_row_of := t_row_of (Z := Z) (k := 1) (h_longest.mono (by decide)) (h_alike.mono (by decide)) R_row_of (PySem.W.mg_of X G x1_row_of)
  have h_parts_by : FnAt Z.P Z.w Z.K Z.mg Z.base 3 "parts_by" I_parts_by := t_parts_by (Z := Z) (k := 2) (h_row_of.mono (by decide)) n_dict n_len n_range R_parts_by (PySem.W.mg_of X G x1_parts_by)
  have h_parts_of : FnAt Z.P Z.w Z.K Z.mg Z.base 4 "parts_of" I_parts_of := t_parts_of (Z := Z) (k := 3) (h_need_lines.mono (by decide)) (h_parts_by.mono (by decide)) R_parts_of (PySem.W.mg_of X G x1_parts_of)
  have h__law_side : FnAt Z.P Z.w Z.K Z.mg Z.base 1 "_law_side" I__law_side := t__law_side (Z := Z) (k := 0)  R__law_side (PySem.W.mg_of X G x1__law_side)
  have h_comes_of : FnAt Z.P Z.w Z.K Z.mg Z.base 1 "comes_of" I_comes_of := t_comes_of (Z := Z) (k := 0)  R_comes_of (PySem.W.mg_of X G x1_comes_of)
  have h_clashes : FnAt Z.P Z.w Z.K Z.mg Z.base 5 "clashes" I_clashes := t_clashes (Z := Z) (k := 4) (h_parts_of.mono (by decide)) (h_comes_of.mono (by decide)) n_tuple R_clashes (PySem.W.mg_of X G x1_clashes)
  have h__law_right : FnAt Z.P Z.w Z.K Z.mg Z.base 6 "_law_right" I__law_right := t__law_right (Z := Z) (k := 5) (h__law_parts.mono (by decide)) (h_parts_of.mono (by decide)) (h__law_side.mono (by decide)) (h_clashes.mono (by decide)) n_repr n_tuple R__law_right (PySem.W.mg_of X G x1__law_right)
  exact fnG_fun R_law sc_law fun X W ent c => b_law (Z := Z) (k := 6) (h__law_begin.mono (by decide)) (h__law_next.mono (by decide)) (h__law_line.mono (by decide)) (h__law_lines.mono (by decide)) (h__law_changed.mono (by decide)) (h__law_right.mono (by decide)) n_range c
end TM.K15
namespace TM.K15
open PySem PySem.Spec TM TM.Row TM.Ln TM.Pt
open L2 hiding prD
open PyProof.Rows hiding St dl

abbrev T3 := Nat × Nat × Nat
def ptD : Pt Str → D
  | .reg o m y => .tup [.str "region", .tup (dl o), .tup (dl m), .tup (dl y)]
  | .stay xs => .tup [.str "stay", .tup (dl xs)]
def ptsD (ps : List (Pt Str)) : List D := ps.map ptD
def triD (t : T3) : D := .tup [.int (t.1 : Nat), .int (t.2.1 : Nat), .int (t.2.2 : Nat)]
def TxOk (xs : List Str) : Prop := ∀ x ∈ xs, LineOk x
def PtOk : Pt Str → Prop
  | .reg o m y => TxOk o ∧ TxOk m ∧ TxOk y
  | .stay xs => TxOk xs
theorem wf_line {x : Str} (h : LineOk x) : Wf 0 (.str x) := Wf.str fun c hc => by have := h.2 c hc; omega
theorem wf_lines {xs : List Str} (h : TxOk xs) : Wf 1 (.tup (dl xs)) := Wf.tup fun d hd => by
  unfold dl at hd
  obtain ⟨x, hx, rfl⟩ := List.mem_map.mp hd
  exact wf_line (h x hx)
theorem wf_reg : Wf 0 (.str "region") := ⟨rfl, by decide +kernel, Nat.le_refl _⟩
theorem wf_stay : Wf 0 (.str "stay") := ⟨rfl, by decide +kernel, Nat.le_refl _⟩
theorem wf_pt {p : Pt Str} (h : PtOk p) : Wf 2 (ptD p) := by
  cases p with
  | reg o m y =>
    refine Wf.tup fun d hd => ?_
    simp only [List.mem_cons, List.not_mem_nil, or_false] at hd
    rcases hd with rfl | rfl | rfl | rfl
    · exact wf_reg.mono (by decide)
    · exact wf_lines h.1
    · exact wf_lines h.2.1
    · exact wf_lines h.2.2
  | stay xs =>
    refine Wf.tup fun d hd => ?_
    simp only [List.mem_cons, List.not_mem_nil, or_false] at hd
    rcases hd with rfl | rfl
    · exact wf_stay.mono (by decide)
    · exact wf_lines h
theorem wf_pts {ps : List (Pt Str)} (h : ∀ p ∈ ps, PtOk p) : Wf 3 (.lst (ptsD ps)) := Wf.lst fun d hd => by
  unfold ptsD at hd
  obtain ⟨x, hx, rfl⟩ := List.mem_map.mp hd
  exact wf_pt (h x hx)
theorem dl_inj {a b : List Str} : dl a = dl b ↔ a = b := by
  unfold dl
  constructor
  · intro h
    exact (List.map_inj_right (f := D.str) fun x y e => by cases e; rfl).mp h
  · rintro rfl; rfl
theorem ne_nil {ds : List D} (h : (D.lst ds).cmpb = true) : fNe [.lst ds, .lst []] = some (.bl (!ds.isEmpty)) := by
  have : Decidable (D.lst ds = D.lst []) := Classical.propDecidable _
  rw [ne_cmp h rfl]
  cases ds <;> simp
theorem ne_reg {o m y : List Str} (h1 : TxOk o) (h2 : TxOk m) (h3 : TxOk y) : fNe [.tup [.tup (dl o), .tup (dl m), .tup (dl y)], .tup [.tup [], .tup [], .tup []]] = some (.bl (!decide (o.length + m.length + y.length = 0))) := by
  have i : Decidable (D.tup [.tup (dl o), .tup (dl m), .tup (dl y)] = .tup [.tup [], .tup [], .tup []]) := Classical.propDecidable _
  rw [ne_cmp (Wf.tup (k := 1) fun d hd => by
    simp only [List.mem_cons, List.not_mem_nil, or_false] at hd
    rcases hd with rfl | rfl | rfl
    · exact wf_lines h1
    · exact wf_lines h2
    · exact wf_lines h3).cmp rfl]
  congr 3
  have e : ∀ a : List Str, dl a = [] ↔ a.length = 0 := fun a => by cases a <;> simp [dl]
  refine decide_eq_decide.mpr ?_
  simp only [D.tup.injEq, List.cons.injEq, e, and_true]
  omega
theorem mid_ok {xs : List Str} (h : TxOk xs) (a k : Nat) : TxOk (mid xs a k) := fun x hx => h x (List.mem_of_mem_take (List.mem_of_mem_drop hx))
theorem dl_mid (xs : List Str) (a k : Nat) : ((dl xs).take k).drop a = dl (mid xs a k) := by
  unfold mid
  rw [dl_take, dl_drop]
theorem mid_len (xs : List Str) (a k : Nat) : (mid xs a k).length ≤ xs.length := by unfold mid; rw [List.length_drop, List.length_take]; omega
theorem len_cut {xs : List Str} {n : Nat} (h : xs.length ≤ n) (a k : Nat) : (mid xs a k).length ≤ n := Nat.le_trans (mid_len xs a k) h
theorem cut_init (ds : List D) : fSl01 [.lst ds, .int (-1)] = some (.lst ds.dropLast) := by
  show some (D.lst (cutL ds none (some (-1)))) = _
  congr 2
  unfold cutL
  rw [HT.sIx_none]
  have : HT.sIx ds.length ds.length (some (-1)) = ds.length - 1 := by
    show (if (-1 : Int) < 0 then ((-1 : Int) + (ds.length : Int)).toNat else min (-1 : Int).toNat ds.length) = _
    rw [if_pos (show (-1 : Int) < 0 by decide)]; omega
  rw [this, List.drop_zero, Nat.sub_zero, List.dropLast_eq_take]
theorem reg_stay : fEq [.str "region", .str "stay"] = some (.bl false) := by rw [eq_str, decide_eq_false (by decide +kernel)]
theorem stay_stay : fEq [.str "stay", .str "stay"] = some (.bl true) := by rw [eq_str, decide_eq_true (by decide +kernel)]
theorem reg_reg : fEq [.str "region", .str "region"] = some (.bl true) := by rw [eq_str, decide_eq_true (by decide +kernel)]
theorem stay_reg : fEq [.str "stay", .str "region"] = some (.bl false) := by rw [eq_str, decide_eq_false (by decide +kernel)]
theorem pt_0r (a b c : D) : fIx [.tup [.str "region", a, b, c], .int 0] = some (.str "region") := rfl
theorem pt_1r (a b c : D) : fIx [.tup [.str "region", a, b, c], .int 1] = some a := rfl
theorem pt_2r (a b c : D) : fIx [.tup [.str "region", a, b, c], .int 2] = some b := rfl
theorem pt_3r (a b c : D) : fIx [.tup [.str "region", a, b, c], .int 3] = some c := rfl
theorem pt_0s (a : D) : fIx [.tup [.str "stay", a], .int 0] = some (.str "stay") := rfl
theorem pt_1s (a : D) : fIx [.tup [.str "stay", a], .int 1] = some a := rfl
theorem nil_or_snoc {α : Type} (l : List α) : l = [] ∨ ∃ f q, l = f ++ [q] := by
  rcases List.eq_nil_or_concat l with h | ⟨f, q, h⟩
  · exact .inl h
  · exact .inr ⟨f, q, by rw [h, List.concat_eq_append]⟩
theorem set_last {α : Type} (xs : List α) (a b : α) (n : Nat) (h : n = xs.length) : (xs ++ [a]).set n b = xs ++ [b] := by
  subst h
  rw [List.set_append_right _ _ (Nat.le_refl _), Nat.sub_self]; rfl
theorem ptsD_app (a b : List (Pt Str)) : ptsD a ++ ptsD b = ptsD (a ++ b) := by unfold ptsD; rw [List.map_append]
theorem ptsD_len (a : List (Pt Str)) : (ptsD a).length = a.length := by simp [ptsD]
theorem mstep_nil (p : Pt Str) : mstep [] p = [p] := rfl
theorem mstep_reg (f : List (Pt Str)) (o m y : List Str) (p : Pt Str) : mstep (f ++ [.reg o m y]) p = f ++ [.reg o m y] ++ [p] := by
  unfold mstep
  rw [List.getLast?_concat]
  simp [Pt.isStay]
theorem mstep_stay (f : List (Pt Str)) (a b : List Str) : mstep (f ++ [.stay a]) (.stay b) = f ++ [.stay (a ++ b)] := by
  unfold mstep
  rw [List.getLast?_concat]
  simp [Pt.isStay, Pt.glue]
theorem mstep_r (f : List (Pt Str)) (o m y : List Str) : mstep f (.reg o m y) = f ++ [.reg o m y] := by
  unfold mstep
  cases f.getLast? <;> simp [Pt.isStay]
theorem mstep_ok {f : List (Pt Str)} {p : Pt Str} (h : ∀ q ∈ f, PtOk q) (hp : PtOk p) : ∀ q ∈ mstep f p, PtOk q := by
  have base : ∀ q ∈ f ++ [p], PtOk q := fun q hq => by
    rcases List.mem_append.mp hq with hq | hq
    · exact h q hq
    · rw [List.mem_singleton] at hq; subst hq; exact hp
  rcases nil_or_snoc f with rfl | ⟨f', q, rfl⟩
  · exact base
  · cases q with
    | reg o m y => rw [mstep_reg]; exact base
    | stay a =>
      cases p with
      | reg o m y => rw [mstep_r]; exact base
      | stay b =>
        rw [mstep_stay]
        intro q hq
        rcases List.mem_append.mp hq with hq | hq
        · exact h q (List.mem_append_left _ hq)
        · rw [List.mem_singleton] at hq; subst hq
          intro x hx
          rcases List.mem_append.mp hx with hx | hx
          · exact h _ (List.mem_append_right _ (List.mem_singleton.mpr rfl)) x hx
          · exact hp x hx
theorem mstep_len (f : List (Pt Str)) (p : Pt Str) : (mstep f p).length ≤ f.length + 1 := fold_len [p] f
theorem shp_cmp (ds : List D) (h : (D.lst ds).cmpb = true) : (D.lst ds).shp = true := by unfold D.cmpb at h; rw [Bool.and_eq_true] at h; exact h.2
/-- the three lines of a merge -/
structure L3 (base left right : List Str) : Prop where
  b : base.length ≤ 20
  l : left.length ≤ 20
  r : right.length ≤ 20
  ob : TxOk base
  ol : TxOk left
  or : TxOk right
section
variable (base left right : List Str)
def envP (x3 x4 x5 : Option Slot) (found : List (Pt Str)) (u : T3) (x7 x8 x9 x10 : Option Slot) : Env := [(some (Slot.val (.tup (dl base)))), (some (Slot.val (.tup (dl left)))), (some (Slot.val (.tup (dl right)))), x3, x4, x5, some (.own (ptsD found)), x7, x8, x9, x10, (some (Slot.val (.int (u.1 : Nat)))), (some (Slot.val (.int (u.2.1 : Nat)))), (some (Slot.val (.int (u.2.2 : Nat))))]
end
theorem cast2 (a : Nat) : ((a : Nat) : Int) + 1 = ((a + 1 : Nat) : Int) := rfl
theorem ltn (a b : Nat) : fLt [.int (a : Nat), .int (b : Nat)] = some (.bl (decide (a < b))) := lt_n a b
def rgD (base left right : List Str) (t u : T3) : D := .tup [.tup (dl (mid base u.1 t.1)), .tup (dl (mid left u.2.1 t.2.1)), .tup (dl (mid right u.2.2 t.2.2))]
theorem pb_step {base left right : List Str} (h3 : L3 base left right) {x3 x4 x5 x10 : Option Slot} {found : List (Pt Str)} {t u : T3} (hf : found.length ≤ 1000) (hk : ∀ p ∈ found, PtOk p) (hm : ∀ a, .stay a ∈ found → a.length ≤ 1000) (ht : t.1 < base.length) (S : Sto) :
    m_parts_by_2 (envP base left right x3 x4 x5 found u (some (Slot.val (.int (t.1 : Nat)))) (some (Slot.val (.int (t.2.1 : Nat)))) (some (Slot.val (.int (t.2.2 : Nat)))) x10) S = .ok .next (envP base left right x3 x4 x5 ((pc base left right t u ++ [Pt.st base t.1]).foldl mstep found) (nx t) (some (Slot.val (.int (t.1 : Nat)))) (some (Slot.val (.int (t.2.1 : Nat)))) (some (Slot.val (.int (t.2.2 : Nat)))) (some (Slot.val (rgD base left right t u)))) S := by
  have c1 := ptsD_len found
  have cm := (wf_pts hk).cmp
  have nr := ne_reg (mid_ok h3.ob u.1 t.1) (mid_ok h3.ol u.2.1 t.2.1) (mid_ok h3.or u.2.2 t.2.2)
  unfold pc regs
  by_cases q : (mid base u.1 t.1).length + (mid left u.2.1 t.2.1).length + (mid right u.2.2 t.2.2).length = 0
  · rw [if_pos q, List.nil_append]
    rw [q] at nr
    show _ = Out.ok Fl.next (envP base left right x3 x4 x5 (mstep found (Pt.st base t.1)) (nx t) _ _ _ _) S
    rcases nil_or_snoc found with rfl | ⟨f', p, rfl⟩
    · rw [mstep_nil]
      have z : fNe [.lst (ptsD []), .lst []] = some (.bl false) := ne_nil cm
      simp only [m_parts_by_2, envP, Int.ofNat_lt, Int.ofNat_le, bind_ok, bind_exc, bind_stuck, sizeLine_eq, fMod_i, fFdiv_i, fMul_i, fMul_i1, fMul_i2, fm0, fm1, fAdd_i, fSub_i, fPow_i, fAdd_l, fAdd_t, fAdd_s, fLt_i, fLe_i, fGt_i, fGe_i, evO, resW, evR, bPrim, bC, bVar, tTru, tBool, tNotB, tAndB, tOrB, bAnd, bOr, bNot, bIf, wIf, evX, bTup, wLst, wPrim, wVal, eFrz, wCall, sOk, sRet, sSet, sIf, sSeq, sDrop, sPar, evW, setAll, Tg.asg, Tg.asgs, mMut, sPutL, bGet, sPutD, wDisp, ePub, bIxL, sPutS, mChk, mInt, D.isStr, D.isInt, D.tru, fLen_l, fLen_t, List.length_map, iVal, itemsD, iRange, plainS, wipeE, backE, wComp, wCompB, List.all_cons, List.all_nil, Slot.isVal, Bool.and_true, Bool.true_and, Bool.and_self, fsem, env0, fill, wMove, Slot.frz, List.getElem?_cons_zero, List.getElem?_cons_succ, List.set_cons_zero, List.set_cons_succ, List.map_cons, List.map_nil, List.cons_append, List.nil_append, List.reduceReplicate, Option.getD_some, List.length_cons, List.length_nil, List.getD_cons_zero, List.getD_cons_succ, Nat.reduceAdd, Nat.reduceSub, Option.map_some, if_true, if_false, ite_true, ite_false, Bool.false_eq_true, reduceIte, Nat.reduceLeDiff, Nat.reduceEqDiff, Int.reduceEq, Int.reduceNe, Int.reduceLT, Int.reduceLE, Int.reduceNeg, Int.reducePow, ne_eq, not_false_eq_true, decide_true, decide_false, true_and, and_true, true_or, or_true, and_self, Bool.not_true, Bool.not_false, reduceCtorEq, sl_mid_t, dl_mid, nr, dl_length, ht, z, cast2, mfAppend]
      rfl
    · have z : fNe [.lst (ptsD (f' ++ [p])), .lst []] = some (.bl true) := by rw [ne_nil cm]; simp [ptsD]
      have la : fIx [.lst (ptsD (f' ++ [p])), .int (-1)] = some (ptD p) := by rw [fIx_last, ← ptsD_app]; exact List.getLast?_concat
      have ca : (ptsD (f' ++ [p])).length + 1 ≤ 16777216 := by rw [c1]; omega
      cases p with
      | reg o m y =>
        rw [mstep_reg]
        have l0 : fIx [ptD (.reg o m y), .int 0] = some (.str "region") := rfl
        simp only [m_parts_by_2, envP, Int.ofNat_lt, Int.ofNat_le, bind_ok, bind_exc, bind_stuck, sizeLine_eq, fMod_i, fFdiv_i, fMul_i, fMul_i1, fMul_i2, fm0, fm1, fAdd_i, fSub_i, fPow_i, fAdd_l, fAdd_t, fAdd_s, fLt_i, fLe_i, fGt_i, fGe_i, evO, resW, evR, bPrim, bC, bVar, tTru, tBool, tNotB, tAndB, tOrB, bAnd, bOr, bNot, bIf, wIf, evX, bTup, wLst, wPrim, wVal, eFrz, wCall, sOk, sRet, sSet, sIf, sSeq, sDrop, sPar, evW, setAll, Tg.asg, Tg.asgs, mMut, sPutL, bGet, sPutD, wDisp, ePub, bIxL, sPutS, mChk, mInt, D.isStr, D.isInt, D.tru, fLen_l, fLen_t, List.length_map, iVal, itemsD, iRange, plainS, wipeE, backE, wComp, wCompB, List.all_cons, List.all_nil, Slot.isVal, Bool.and_true, Bool.true_and, Bool.and_self, fsem, env0, fill, wMove, Slot.frz, List.getElem?_cons_zero, List.getElem?_cons_succ, List.set_cons_zero, List.set_cons_succ, List.map_cons, List.map_nil, List.cons_append, List.nil_append, List.reduceReplicate, Option.getD_some, List.length_cons, List.length_nil, List.getD_cons_zero, List.getD_cons_succ, Nat.reduceAdd, Nat.reduceSub, Option.map_some, if_true, if_false, ite_true, ite_false, Bool.false_eq_true, reduceIte, Nat.reduceLeDiff, Nat.reduceEqDiff, Int.reduceEq, Int.reduceNe, Int.reduceLT, Int.reduceLE, Int.reduceNeg, Int.reducePow, ne_eq, not_false_eq_true, decide_true, decide_false, true_and, and_true, true_or, or_true, and_self, Bool.not_true, Bool.not_false, reduceCtorEq, sl_mid_t, dl_mid, nr, dl_length, ht, z, cast2, mfAppend, negF_1, la, l0, reg_stay, List.length_append, ca, ← ptsD_app (f' ++ [Pt.reg o m y])]
        rfl
      | stay a =>
        have l0 : fIx [ptD (.stay a), .int 0] = some (.str "stay") := rfl
        have l1 : fIx [ptD (.stay a), .int 1] = some (.tup (dl a)) := rfl
        have ix : ixN (ptsD (f' ++ [Pt.stay a])).length (-1) = some f'.length := by rw [ixN_last (by rw [c1]; simp), c1]; simp
        have ha : fAdd [.tup (dl a), .tup (dl (mid base t.1 (t.1 + 1)))] = some (.tup (dl (a ++ mid base t.1 (t.1 + 1)))) := by
          have := hm a (List.mem_append_right _ (List.mem_singleton.mpr rfl))
          have := len_cut h3.b t.1 (t.1 + 1)
          rw [fAdd_t _ _ (by rw [dl_length, dl_length]; omega), dl_app]
        have st : (ptsD (f' ++ [Pt.stay a])).set f'.length (.tup [.str "stay", .tup (dl (a ++ mid base t.1 (t.1 + 1)))]) = ptsD (f' ++ [Pt.stay (a ++ mid base t.1 (t.1 + 1))]) := by
          rw [← ptsD_app, ← ptsD_app]
          exact set_last _ _ _ _ (ptsD_len _).symm
        rw [show Pt.st base t.1 = .stay (mid base t.1 (t.1 + 1)) from rfl, mstep_stay]
        simp only [m_parts_by_2, envP, Int.ofNat_lt, Int.ofNat_le, bind_ok, bind_exc, bind_stuck, sizeLine_eq, fMod_i, fFdiv_i, fMul_i, fMul_i1, fMul_i2, fm0, fm1, fAdd_i, fSub_i, fPow_i, fAdd_l, fAdd_t, fAdd_s, fLt_i, fLe_i, fGt_i, fGe_i, evO, resW, evR, bPrim, bC, bVar, tTru, tBool, tNotB, tAndB, tOrB, bAnd, bOr, bNot, bIf, wIf, evX, bTup, wLst, wPrim, wVal, eFrz, wCall, sOk, sRet, sSet, sIf, sSeq, sDrop, sPar, evW, setAll, Tg.asg, Tg.asgs, mMut, sPutL, bGet, sPutD, wDisp, ePub, bIxL, sPutS, mChk, mInt, D.isStr, D.isInt, D.tru, fLen_l, fLen_t, List.length_map, iVal, itemsD, iRange, plainS, wipeE, backE, wComp, wCompB, List.all_cons, List.all_nil, Slot.isVal, Bool.and_true, Bool.true_and, Bool.and_self, fsem, env0, fill, wMove, Slot.frz, List.getElem?_cons_zero, List.getElem?_cons_succ, List.set_cons_zero, List.set_cons_succ, List.map_cons, List.map_nil, List.cons_append, List.nil_append, List.reduceReplicate, Option.getD_some, List.length_cons, List.length_nil, List.getD_cons_zero, List.getD_cons_succ, Nat.reduceAdd, Nat.reduceSub, Option.map_some, if_true, if_false, ite_true, ite_false, Bool.false_eq_true, reduceIte, Nat.reduceLeDiff, Nat.reduceEqDiff, Int.reduceEq, Int.reduceNe, Int.reduceLT, Int.reduceLE, Int.reduceNeg, Int.reducePow, ne_eq, not_false_eq_true, decide_true, decide_false, true_and, and_true, true_or, or_true, and_self, Bool.not_true, Bool.not_false, reduceCtorEq, sl_mid_t, dl_mid, nr, dl_length, ht, z, cast2, negF_1, la, l0, l1, stay_stay, ix, ha, st]
        rfl
  · rw [if_neg q]
    rw [decide_eq_false q] at nr
    rw [show ([Pt.reg (mid base u.1 t.1) (mid left u.2.1 t.2.1) (mid right u.2.2 t.2.2)] ++ [Pt.st base t.1]).foldl mstep found = found ++ [Pt.reg (mid base u.1 t.1) (mid left u.2.1 t.2.1) (mid right u.2.2 t.2.2)] ++ [Pt.st base t.1] by
      show mstep (mstep found _) _ = _
      rw [mstep_r, mstep_reg]]
    have eP : ptsD (found ++ [Pt.reg (mid base u.1 t.1) (mid left u.2.1 t.2.1) (mid right u.2.2 t.2.2)] ++ [Pt.st base t.1]) = ptsD found ++ [ptD (.reg (mid base u.1 t.1) (mid left u.2.1 t.2.1) (mid right u.2.2 t.2.2))] ++ [ptD (Pt.st base t.1)] := by rw [← ptsD_app, ← ptsD_app]; rfl
    have ra : fAdd [.tup [.str "region"], .tup [.tup (dl (mid base u.1 t.1)), .tup (dl (mid left u.2.1 t.2.1)), .tup (dl (mid right u.2.2 t.2.2))]] = some (ptD (.reg (mid base u.1 t.1) (mid left u.2.1 t.2.1) (mid right u.2.2 t.2.2))) := fAdd_t _ _ (by simp)
    have ca : (ptsD found).length + 1 ≤ 16777216 := by rw [c1]; omega
    have cb : (ptsD found).length ≤ 16777215 := by rw [c1]; omega
    have cc : (ptsD found).length ≤ 16777214 := by rw [c1]; omega
    have ca2 : (ptsD found ++ [ptD (.reg (mid base u.1 t.1) (mid left u.2.1 t.2.1) (mid right u.2.2 t.2.2))]).length + 1 ≤ 16777216 := by rw [List.length_append, c1]; simp; omega
    have z : fNe [.lst (ptsD found ++ [ptD (.reg (mid base u.1 t.1) (mid left u.2.1 t.2.1) (mid right u.2.2 t.2.2))]), .lst []] = some (.bl true) := by
      rw [show ptsD found ++ [ptD (.reg (mid base u.1 t.1) (mid left u.2.1 t.2.1) (mid right u.2.2 t.2.2))] = ptsD (found ++ [.reg (mid base u.1 t.1) (mid left u.2.1 t.2.1) (mid right u.2.2 t.2.2)]) from ptsD_app _ [_], ne_nil (wf_pts (mstep_r found _ _ _ ▸ mstep_ok hk ⟨mid_ok h3.ob _ _, mid_ok h3.ol _ _, mid_ok h3.or _ _⟩)).cmp]
      simp [ptsD]
    have la : fIx [.lst (ptsD found ++ [ptD (.reg (mid base u.1 t.1) (mid left u.2.1 t.2.1) (mid right u.2.2 t.2.2))]), .int (-1)] = some (ptD (.reg (mid base u.1 t.1) (mid left u.2.1 t.2.1) (mid right u.2.2 t.2.2))) := by rw [fIx_last]; exact List.getLast?_concat
    have l0 : fIx [ptD (.reg (mid base u.1 t.1) (mid left u.2.1 t.2.1) (mid right u.2.2 t.2.2)), .int 0] = some (.str "region") := rfl
    simp only [m_parts_by_2, envP, Int.ofNat_lt, Int.ofNat_le, bind_ok, bind_exc, bind_stuck, sizeLine_eq, fMod_i, fFdiv_i, fMul_i, fMul_i1, fMul_i2, fm0, fm1, fAdd_i, fSub_i, fPow_i, fAdd_l, fAdd_t, fAdd_s, fLt_i, fLe_i, fGt_i, fGe_i, evO, resW, evR, bPrim, bC, bVar, tTru, tBool, tNotB, tAndB, tOrB, bAnd, bOr, bNot, bIf, wIf, evX, bTup, wLst, wPrim, wVal, eFrz, wCall, sOk, sRet, sSet, sIf, sSeq, sDrop, sPar, evW, setAll, Tg.asg, Tg.asgs, mMut, sPutL, bGet, sPutD, wDisp, ePub, bIxL, sPutS, mChk, mInt, D.isStr, D.isInt, D.tru, fLen_l, fLen_t, List.length_map, iVal, itemsD, iRange, plainS, wipeE, backE, wComp, wCompB, List.all_cons, List.all_nil, Slot.isVal, Bool.and_true, Bool.true_and, Bool.and_self, fsem, env0, fill, wMove, Slot.frz, List.getElem?_cons_zero, List.getElem?_cons_succ, List.set_cons_zero, List.set_cons_succ, List.map_cons, List.map_nil, List.cons_append, List.nil_append, List.reduceReplicate, Option.getD_some, List.length_cons, List.length_nil, List.getD_cons_zero, List.getD_cons_succ, Nat.reduceAdd, Nat.reduceSub, Option.map_some, if_true, if_false, ite_true, ite_false, Bool.false_eq_true, reduceIte, Nat.reduceLeDiff, Nat.reduceEqDiff, Int.reduceEq, Int.reduceNe, Int.reduceLT, Int.reduceLE, Int.reduceNeg, Int.reducePow, ne_eq, not_false_eq_true, decide_true, decide_false, true_and, and_true, true_or, or_true, and_self, Bool.not_true, Bool.not_false, reduceCtorEq, sl_mid_t, dl_mid, nr, dl_length, ht, z, cast2, mfAppend, negF_1, la, l0, reg_stay, List.length_append, ca, cb, cc, ra, eP]
    rfl
/-- the last turn: no line stays -/
theorem pb_last {base left right : List Str} (h3 : L3 base left right) {x3 x4 x5 x10 : Option Slot} {found : List (Pt Str)} {t u : T3} (hf : found.length ≤ 1000) (hk : ∀ p ∈ found, PtOk p) (ht : t.1 = base.length) (S : Sto) :
    m_parts_by_2 (envP base left right x3 x4 x5 found u (some (Slot.val (.int (t.1 : Nat)))) (some (Slot.val (.int (t.2.1 : Nat)))) (some (Slot.val (.int (t.2.2 : Nat)))) x10) S = .ok .next (envP base left right x3 x4 x5 ((pc base left right t u).foldl mstep found) (nx t) (some (Slot.val (.int (t.1 : Nat)))) (some (Slot.val (.int (t.2.1 : Nat)))) (some (Slot.val (.int (t.2.2 : Nat)))) (some (Slot.val (rgD base left right t u)))) S := by
  have c1 := ptsD_len found
  have nr := ne_reg (mid_ok h3.ob u.1 t.1) (mid_ok h3.ol u.2.1 t.2.1) (mid_ok h3.or u.2.2 t.2.2)
  have ht2 : ¬ t.1 < base.length := by omega
  unfold pc regs
  by_cases q : (mid base u.1 t.1).length + (mid left u.2.1 t.2.1).length + (mid right u.2.2 t.2.2).length = 0
  · rw [if_pos q]
    rw [q] at nr
    simp only [m_parts_by_2, envP, Int.ofNat_lt, Int.ofNat_le, bind_ok, bind_exc, bind_stuck, sizeLine_eq, fMod_i, fFdiv_i, fMul_i, fMul_i1, fMul_i2, fm0, fm1, fAdd_i, fSub_i, fPow_i, fAdd_l, fAdd_t, fAdd_s, fLt_i, fLe_i, fGt_i, fGe_i, evO, resW, evR, bPrim, bC, bVar, tTru, tBool, tNotB, tAndB, tOrB, bAnd, bOr, bNot, bIf, wIf, evX, bTup, wLst, wPrim, wVal, eFrz, wCall, sOk, sRet, sSet, sIf, sSeq, sDrop, sPar, evW, setAll, Tg.asg, Tg.asgs, mMut, sPutL, bGet, sPutD, wDisp, ePub, bIxL, sPutS, mChk, mInt, D.isStr, D.isInt, D.tru, fLen_l, fLen_t, List.length_map, iVal, itemsD, iRange, plainS, wipeE, backE, wComp, wCompB, List.all_cons, List.all_nil, Slot.isVal, Bool.and_true, Bool.true_and, Bool.and_self, fsem, env0, fill, wMove, Slot.frz, List.getElem?_cons_zero, List.getElem?_cons_succ, List.set_cons_zero, List.set_cons_succ, List.map_cons, List.map_nil, List.cons_append, List.nil_append, List.reduceReplicate, Option.getD_some, List.length_cons, List.length_nil, List.getD_cons_zero, List.getD_cons_succ, Nat.reduceAdd, Nat.reduceSub, Option.map_some, if_true, if_false, ite_true, ite_false, Bool.false_eq_true, reduceIte, Nat.reduceLeDiff, Nat.reduceEqDiff, Int.reduceEq, Int.reduceNe, Int.reduceLT, Int.reduceLE, Int.reduceNeg, Int.reducePow, ne_eq, not_false_eq_true, decide_true, decide_false, true_and, and_true, true_or, or_true, and_self, Bool.not_true, Bool.not_false, reduceCtorEq, sl_mid_t, dl_mid, nr, dl_length, ht2, cast2, List.foldl_nil]
    rfl
  · rw [if_neg q]
    rw [decide_eq_false q] at nr
    have ra : fAdd [.tup [.str "region"], .tup [.tup (dl (mid base u.1 t.1)), .tup (dl (mid left u.2.1 t.2.1)), .tup (dl (mid right u.2.2 t.2.2))]] = some (ptD (.reg (mid base u.1 t.1) (mid left u.2.1 t.2.1) (mid right u.2.2 t.2.2))) := fAdd_t _ _ (by simp)
    have ca : (ptsD found).length + 1 ≤ 16777216 := by rw [c1]; omega
    have eP : ptsD (found ++ [Pt.reg (mid base u.1 t.1) (mid left u.2.1 t.2.1) (mid right u.2.2 t.2.2)]) = ptsD found ++ [ptD (.reg (mid base u.1 t.1) (mid left u.2.1 t.2.1) (mid right u.2.2 t.2.2))] := (ptsD_app _ [_]).symm
    simp only [m_parts_by_2, envP, Int.ofNat_lt, Int.ofNat_le, bind_ok, bind_exc, bind_stuck, sizeLine_eq, fMod_i, fFdiv_i, fMul_i, fMul_i1, fMul_i2, fm0, fm1, fAdd_i, fSub_i, fPow_i, fAdd_l, fAdd_t, fAdd_s, fLt_i, fLe_i, fGt_i, fGe_i, evO, resW, evR, bPrim, bC, bVar, tTru, tBool, tNotB, tAndB, tOrB, bAnd, bOr, bNot, bIf, wIf, evX, bTup, wLst, wPrim, wVal, eFrz, wCall, sOk, sRet, sSet, sIf, sSeq, sDrop, sPar, evW, setAll, Tg.asg, Tg.asgs, mMut, sPutL, bGet, sPutD, wDisp, ePub, bIxL, sPutS, mChk, mInt, D.isStr, D.isInt, D.tru, fLen_l, fLen_t, List.length_map, iVal, itemsD, iRange, plainS, wipeE, backE, wComp, wCompB, List.all_cons, List.all_nil, Slot.isVal, Bool.and_true, Bool.true_and, Bool.and_self, fsem, env0, fill, wMove, Slot.frz, List.getElem?_cons_zero, List.getElem?_cons_succ, List.set_cons_zero, List.set_cons_succ, List.map_cons, List.map_nil, List.cons_append, List.nil_append, List.reduceReplicate, Option.getD_some, List.length_cons, List.length_nil, List.getD_cons_zero, List.getD_cons_succ, Nat.reduceAdd, Nat.reduceSub, Option.map_some, if_true, if_false, ite_true, ite_false, Bool.false_eq_true, reduceIte, Nat.reduceLeDiff, Nat.reduceEqDiff, Int.reduceEq, Int.reduceNe, Int.reduceLT, Int.reduceLE, Int.reduceNeg, Int.reducePow, ne_eq, not_false_eq_true, decide_true, decide_false, true_and, and_true, true_or, or_true, and_self, Bool.not_true, Bool.not_false, reduceCtorEq, sl_mid_t, dl_mid, nr, dl_length, ht2, cast2, mfAppend, List.length_append, ca, ra, List.foldl_cons, List.foldl_nil, mstep_r, eP]
    rfl
def pre (base left right : List Str) : List T3 → T3 → List (Pt Str)
  | [], _ => []
  | t :: ts, u => pc base left right t u ++ Pt.st base t.1 :: pre base left right ts (nx t)
def lastU : List T3 → T3 → T3
  | [], u => u
  | t :: ts, _ => lastU ts (nx t)
theorem pcs_pre (base left right : List Str) : ∀ (ts : List T3) (u : T3), pcs base left right ts u = pre base left right ts u ++ pc base left right (ends base left right) (lastU ts u)
  | [], u => rfl
  | t :: ts, u => by
    unfold pcs pre lastU
    rw [pcs_pre base left right ts (nx t), List.append_assoc, List.cons_append]
theorem pre_len (base left right : List Str) (ts : List T3) (u : T3) : (pre base left right ts u).length ≤ 2 * ts.length + 1 := by
  have := pcs_len (base := base) (left := left) (right := right) ts u
  rw [pcs_pre, List.length_append] at this
  omega
theorem regs_ok {o m y : List Str} (h1 : TxOk o) (h2 : TxOk m) (h3 : TxOk y) : ∀ p ∈ regs o m y, PtOk p := by
  unfold regs
  split
  · intro p hp; cases hp
  · intro p hp; rw [List.mem_singleton] at hp; subst hp; exact ⟨h1, h2, h3⟩
theorem fold_ok : ∀ {ps f : List (Pt Str)}, (∀ q ∈ f, PtOk q) → (∀ q ∈ ps, PtOk q) → ∀ q ∈ ps.foldl mstep f, PtOk q
  | [], f, h, _ => h
  | p :: ps, f, h, k => by
    rw [List.foldl_cons]
    exact fold_ok (mstep_ok h (k p List.mem_cons_self)) fun q hq => k q (List.mem_cons_of_mem _ hq)
theorem pc_ok {base left right : List Str} (h : L3 base left right) (t u : T3) : ∀ p ∈ pc base left right t u, PtOk p := regs_ok (mid_ok h.ob _ _) (mid_ok h.ol _ _) (mid_ok h.or _ _)
theorem pre_ok {base left right : List Str} (h : L3 base left right) : ∀ (ts : List T3) (u : T3), ∀ p ∈ pre base left right ts u, PtOk p
  | [], _, p, hp => by cases hp
  | t :: ts, u, p, hp => by
    unfold pre at hp
    rcases List.mem_append.mp hp with hp | hp
    · exact pc_ok h t u p hp
    · rcases List.mem_cons.mp hp with hp | hp
      · subst hp; exact mid_ok h.ob _ _
      · exact pre_ok h ts (nx t) p hp
/-- how long a stay can be -/
def stl : Pt Str → Nat
  | .stay a => a.length
  | _ => 0
theorem mstep_stl {f : List (Pt Str)} {p : Pt Str} {n k : Nat} (h : ∀ q ∈ f, stl q ≤ n) (hp : stl p ≤ k) : ∀ q ∈ mstep f p, stl q ≤ n + k := by
  have base : ∀ q ∈ f ++ [p], stl q ≤ n + k := fun q hq => by
    rcases List.mem_append.mp hq with hq | hq
    · have := h q hq; omega
    · rw [List.mem_singleton] at hq; subst hq; omega
  rcases nil_or_snoc f with rfl | ⟨f', q, rfl⟩
  · exact base
  · cases q with
    | reg o m y => rw [mstep_reg]; exact base
    | stay a =>
      cases p with
      | reg o m y => rw [mstep_r]; exact base
      | stay b =>
        rw [mstep_stay]
        intro q hq
        rcases List.mem_append.mp hq with hq | hq
        · have := h q (List.mem_append_left _ hq); omega
        · rw [List.mem_singleton] at hq; subst hq
          have := h _ (List.mem_append_right _ (List.mem_singleton.mpr rfl))
          simp [stl] at this hp ⊢
          omega
theorem fold_stl {k : Nat} : ∀ {ps f : List (Pt Str)} {n : Nat}, (∀ q ∈ f, stl q ≤ n) → (∀ q ∈ ps, stl q ≤ k) → ∀ q ∈ ps.foldl mstep f, stl q ≤ n + ps.length * k
  | [], f, n, h, _ => by simpa using h
  | p :: ps, f, n, h, hk => by
    have := fold_stl (ps := ps) (mstep_stl h (hk p List.mem_cons_self)) fun q hq => hk q (List.mem_cons_of_mem _ hq)
    intro q hq
    have := this q hq
    rw [List.length_cons, Nat.add_mul, Nat.one_mul]
    omega
theorem pre_stl {base left right : List Str} : ∀ (ts : List T3) (u : T3), ∀ p ∈ pre base left right ts u, stl p ≤ 1
  | [], _, p, hp => by cases hp
  | t :: ts, u, p, hp => by
    unfold pre at hp
    rcases List.mem_append.mp hp with hp | hp
    · unfold pc regs at hp
      split at hp
      · cases hp
      · rw [List.mem_singleton] at hp; subst hp; exact Nat.zero_le _
    · rcases List.mem_cons.mp hp with hp | hp
      · subst hp
        unfold Pt.st stl mid
        simp
        omega
      · exact pre_stl ts (nx t) p hp
theorem pre_cons (base left right : List Str) (t : T3) (ts : List T3) (u : T3) : pre base left right (t :: ts) u = (pc base left right t u ++ [Pt.st base t.1]) ++ pre base left right ts (nx t) := by
  rw [List.append_assoc]; rfl
theorem pb_loop {base left right : List Str} (h3 : L3 base left right) {x3 x4 x5 : Option Slot} (S : Sto) : ∀ (ts : List T3) (u : T3) (found : List (Pt Str)) (x7 x8 x9 x10 : Option Slot), found.length + 2 * ts.length ≤ 1000 → (∀ p ∈ found, PtOk p) → (∀ p ∈ found, stl p + 2 * ts.length ≤ 1000) → (∀ t ∈ ts, t.1 < base.length) →
    ∃ x7' x8' x9' x10', ∀ ds, forL (.tp [.nm 7, .nm 8, .nm 9]) m_parts_by_2 (ts.map triD ++ ds) (envP base left right x3 x4 x5 found u x7 x8 x9 x10) S = forL (.tp [.nm 7, .nm 8, .nm 9]) m_parts_by_2 ds (envP base left right x3 x4 x5 ((pre base left right ts u).foldl mstep found) (lastU ts u) x7' x8' x9' x10') S
  | [], u, found, x7, x8, x9, x10, _, _, _, _ => ⟨x7, x8, x9, x10, fun _ => rfl⟩
  | t :: ts, u, found, x7, x8, x9, x10, hf, hk, hm, ht => by
    rw [List.length_cons] at hf
    have st := pb_step h3 (x3 := x3) (x4 := x4) (x5 := x5) (x10 := x10) (found := found) (t := t) (u := u) (by omega) hk (fun a ha => by have := hm _ ha; simp [stl] at this; omega) (ht t List.mem_cons_self) S
    have ok1 : ∀ q ∈ pc base left right t u ++ [Pt.st base t.1], PtOk q := fun q hq => by
      rcases List.mem_append.mp hq with hq | hq
      · exact pc_ok h3 t u q hq
      · rw [List.mem_singleton] at hq; subst hq; exact mid_ok h3.ob _ _
    have ok2 : ∀ q ∈ pc base left right t u ++ [Pt.st base t.1], stl q ≤ 1 := fun q hq => pre_stl (left := left) (right := right) [t] u q (by simpa [pre] using hq)
    have l1 : (pc base left right t u).length ≤ 1 := regs_len _ _ _
    obtain ⟨y7, y8, y9, y10, e⟩ := pb_loop h3 (x3 := x3) (x4 := x4) (x5 := x5) S ts (nx t) ((pc base left right t u ++ [Pt.st base t.1]).foldl mstep found) _ _ _ _ (by
        have := fold_len (pc base left right t u ++ [Pt.st base t.1]) found
        rw [List.length_append, List.length_singleton] at this
        omega) (fold_ok hk ok1) (fun p hp => by
        have h0 : ∀ q ∈ found, stl q ≤ 1000 - 2 * (ts.length + 1) := fun q hq => by have := hm q hq; rw [List.length_cons] at this; omega
        have := fold_stl h0 ok2 p hp
        rw [List.length_append, List.length_singleton] at this
        omega) fun q hq => ht q (List.mem_cons_of_mem _ hq)
    refine ⟨y7, y8, y9, y10, fun ds => ?_⟩
    rw [List.map_cons, List.cons_append, forL_step (show Tg.asg _ (triD t) _ = some _ from rfl) st, e]
    rw [pre_cons, List.foldl_append (l' := pre base left right ts (nx t))]
    rfl

/-! ### the rows as dicts -/
theorem chain_rise {one other : List Str} {i j : Nat} {l : List (Nat × Nat)} (h : Chain one other i j l) : (∀ p ∈ l, (i ≤ p.1 ∧ j ≤ p.2) ∧ Like one other p) ∧ l.Pairwise (fun p q => p.1 < q.1 ∧ p.2 < q.2) := by
  induction h with
  | nil _ => exact ⟨fun p hp => (nomatch hp), List.Pairwise.nil⟩
  | cons f _ ih =>
    obtain ⟨f1, f2, _⟩ := f
    refine ⟨fun q hq => ?_, List.pairwise_cons.mpr ⟨fun q hq => ?_, ih.2⟩⟩
    · rcases List.mem_cons.mp hq with hq | hq
      · subst hq; exact ⟨⟨f2.1, f2.2.1⟩, f1⟩
      · have := ih.1 q hq
        exact ⟨⟨by have := f2.1; omega, by have := f2.2.1; omega⟩, this.2⟩
    · have := (ih.1 q hq).1
      omega
theorem comm_rise (one other : List Str) : (comm one other).Pairwise (fun p q => p.1 < q.1 ∧ p.2 < q.2) := (chain_rise (comm_chain one other)).2
theorem comm_like {one other : List Str} {p : Nat × Nat} (h : p ∈ comm one other) : Like one other p := ((chain_rise (comm_chain one other)).1 p h).2
theorem pairs_prD (C : List (Nat × Nat)) : pairsD (prD C) = some (C.map fun p => (Sum.inl (p.1 : Int), D.int (p.2 : Nat))) := by
  induction C with
  | nil => rfl
  | cons p C ih =>
    show (match keyD (.int (p.1 : Nat)), pairsD (prD C) with | some x, some r => some ((x, D.int (p.2 : Nat)) :: r) | _, _ => none) = _
    rw [ih]; rfl
theorem merge_new : ∀ (kvs acc : List (Key × D)), (acc ++ kvs).Pairwise (fun (p q : Key × D) => p.1 ≠ q.1) → mergeKD acc kvs = acc ++ kvs
  | [], acc, _ => by rw [List.append_nil]; rfl
  | kv :: kvs, acc, h => by
    have hn : (acc.any fun z => decide (z.1 = kv.1)) = false := by
      rw [List.any_eq_false]
      intro z hz
      have := (List.pairwise_append.mp h).2.2 z hz kv List.mem_cons_self
      simpa using this
    show mergeKD (putKD acc kv.1 kv.2) kvs = _
    unfold putKD
    rw [hn, if_neg Bool.false_ne_true, merge_new kvs (acc ++ [(kv.1, kv.2)]) (by rw [List.append_assoc]; exact h), List.append_assoc]
    rfl
theorem dict_prD {C : List (Nat × Nat)} (h : C.Pairwise (fun p q => p.1 < q.1 ∧ p.2 < q.2)) : fDict [.lst (prD C)] = some (.dct (C.map fun p => Sum.inl (p.1 : Int)) (C.map fun p => .int (p.2 : Nat))) := by
  show (match pairsD (prD C) with | some kvs => some (D.dct ((mergeKD [] kvs).map fun z => Prod.fst z) ((mergeKD [] kvs).map fun z => Prod.snd z)) | none => none) = _
  rw [pairs_prD]
  show some _ = some _
  rw [merge_new _ [] (by
    rw [List.nil_append, List.pairwise_map]
    refine h.imp fun {a b} hab e => ?_
    have e : Sum.inl (a.1 : Int) = (Sum.inl (b.1 : Int) : Key) := e
    have e2 := Sum.inl.inj e
    have := hab.1
    omega), List.nil_append, List.map_map, List.map_map]
  rfl
theorem look_prD (k : Nat) : ∀ C : List (Nat × Nat), lookD (C.map fun p => (Sum.inl (p.1 : Int) : Key)) (C.map fun p => D.int (p.2 : Nat)) (Sum.inl (k : Int)) = (look2 C k).map fun i => D.int (i : Nat)
  | [] => rfl
  | p :: C => by
    show (if (Sum.inl (p.1 : Int) : Key) = Sum.inl (k : Int) then some (D.int (p.2 : Nat)) else lookD _ _ _) = _
    unfold look2
    by_cases e : p.1 = k
    · rw [if_pos (by rw [e]), List.find?_cons_of_pos (by simpa using e)]; rfl
    · rw [if_neg (fun z => e (by cases z; omega)), List.find?_cons_of_neg (by simpa using e)]
      exact look_prD k C
def dctD (C : List (Nat × Nat)) : D := .dct (C.map fun p => Sum.inl (p.1 : Int)) (C.map fun p => .int (p.2 : Nat))
theorem in_dct (C : List (Nat × Nat)) (k : Nat) : fIn [.int (k : Nat), dctD C] = some (.bl (look2 C k).isSome) := by
  show some (D.bl (lookD _ _ (Sum.inl (k : Int))).isSome) = _
  rw [look_prD]
  cases look2 C k <;> rfl
theorem ix_dct {C : List (Nat × Nat)} {k i : Nat} (h : look2 C k = some i) : fIx [dctD C, .int (k : Nat)] = some (.int (i : Nat)) := by
  show lookD _ _ (Sum.inl (k : Int)) = _
  rw [look_prD, h]; rfl
def triFD (C1 C2 : List (Nat × Nat)) : D → Option D
  | .int k => (triF C1 C2 k.toNat).map triD
  | _ => none
theorem triFD_range (C1 C2 : List (Nat × Nat)) (n : Nat) : (rangeD 0 n 1).filterMap (triFD C1 C2) = ((List.range n).filterMap (triF C1 C2)).map triD := by
  rw [rangeD_up, List.range_eq_range', List.filterMap_map, List.map_filterMap]
  apply fmap_congr
  intro k _
  show (triF C1 C2 ((k : Nat) : Int).toNat).map triD = _
  rw [Int.toNat_natCast]
def envS (base left right : List Str) (C1 C2 : List (Nat × Nat)) (x7 : Option Slot) : Env := [(some (Slot.val (.tup (dl base)))), (some (Slot.val (.tup (dl left)))), (some (Slot.val (.tup (dl right)))), none, (some (Slot.val (dctD C1))), (some (Slot.val (dctD C2))), none, x7, none, none, none, none, none, none]
theorem stays_ok {base left right : List Str} {C1 C2 : List (Nat × Nat)} (hb : base.length ≤ 60) (S : Sto) :
    compL [7] (.nm 7) m_parts_by_0 (turn1 m_parts_by_1) (rangeD 0 base.length 1) [] [(some (Slot.val (.tup (dl base)))), (some (Slot.val (.tup (dl left)))), (some (Slot.val (.tup (dl right)))), none, (some (Slot.val (dctD C1))), (some (Slot.val (dctD C2))), none, none, none, none, none, none, none, none] S =
      .ok (((List.range base.length).filterMap (triF C1 C2)).map triD) [(some (Slot.val (.tup (dl base)))), (some (Slot.val (.tup (dl left)))), (some (Slot.val (.tup (dl right)))), none, (some (Slot.val (dctD C1))), (some (Slot.val (dctD C2))), none, none, none, none, none, none, none, none] S := by
  rw [← triFD_range]
  refine compF_run (triFD C1 C2) (rangeD 0 base.length 1) [] (by rw [rangeD_length]; simp; omega) fun d hd => ?_
  obtain ⟨j, hj⟩ := List.getElem?_of_mem hd
  obtain ⟨_, rfl⟩ := rangeD_get hj
  rw [show (0 : Int) + (j : Nat) * 1 = (j : Nat) by omega]
  have ev : ∀ C : List (Nat × Nat), fIn [.int (j : Nat), dctD C] = some (.bl (look2 C j).isSome) := fun C => in_dct C j
  refine ⟨[(some (Slot.val (.tup (dl base)))), (some (Slot.val (.tup (dl left)))), (some (Slot.val (.tup (dl right)))), none, (some (Slot.val (dctD C1))), (some (Slot.val (dctD C2))), none, (some (Slot.val (.int (j : Nat)))), none, none, none, none, none, none], rfl, ?_⟩
  show match (triF C1 C2 ((j : Nat) : Int).toNat).map triD with | some y => _ | none => _
  rw [Int.toNat_natCast]
  unfold triF
  cases l1 : look2 C1 j with
  | none =>
    refine ⟨envS base left right C1 C2 (some (Slot.val (.int (j : Nat)))), ?_, rfl⟩
    simp only [m_parts_by_0, Int.ofNat_lt, Int.ofNat_le, bind_ok, bind_exc, bind_stuck, sizeLine_eq, fMod_i, fFdiv_i, fMul_i, fMul_i1, fMul_i2, fm0, fm1, fAdd_i, fSub_i, fPow_i, fAdd_l, fAdd_t, fAdd_s, fLt_i, fLe_i, fGt_i, fGe_i, evO, resW, evR, bPrim, bC, bVar, tTru, tBool, tNotB, tAndB, tOrB, bAnd, bOr, bNot, bIf, wIf, evX, bTup, wLst, wPrim, wVal, eFrz, wCall, sOk, sRet, sSet, sIf, sSeq, sDrop, sPar, evW, setAll, Tg.asg, Tg.asgs, mMut, sPutL, bGet, sPutD, wDisp, ePub, bIxL, sPutS, mChk, mInt, D.isStr, D.isInt, D.tru, fLen_l, fLen_t, List.length_map, iVal, itemsD, iRange, plainS, wipeE, backE, wComp, wCompB, List.all_cons, List.all_nil, Slot.isVal, Bool.and_true, Bool.true_and, Bool.and_self, fsem, env0, fill, wMove, Slot.frz, List.getElem?_cons_zero, List.getElem?_cons_succ, List.set_cons_zero, List.set_cons_succ, List.map_cons, List.map_nil, List.cons_append, List.nil_append, List.reduceReplicate, Option.getD_some, List.length_cons, List.length_nil, List.getD_cons_zero, List.getD_cons_succ, Nat.reduceAdd, Nat.reduceSub, Option.map_some, if_true, if_false, ite_true, ite_false, Bool.false_eq_true, reduceIte, Nat.reduceLeDiff, Nat.reduceEqDiff, Int.reduceEq, Int.reduceNe, Int.reduceLT, Int.reduceLE, Int.reduceNeg, Int.reducePow, ne_eq, not_false_eq_true, decide_true, decide_false, true_and, and_true, true_or, or_true, and_self, Bool.not_true, Bool.not_false, reduceCtorEq, ev, l1, Option.isSome_none]
    rfl
  | some i =>
    cases l2 : look2 C2 j with
    | none =>
      refine ⟨envS base left right C1 C2 (some (Slot.val (.int (j : Nat)))), ?_, rfl⟩
      simp only [m_parts_by_0, Int.ofNat_lt, Int.ofNat_le, bind_ok, bind_exc, bind_stuck, sizeLine_eq, fMod_i, fFdiv_i, fMul_i, fMul_i1, fMul_i2, fm0, fm1, fAdd_i, fSub_i, fPow_i, fAdd_l, fAdd_t, fAdd_s, fLt_i, fLe_i, fGt_i, fGe_i, evO, resW, evR, bPrim, bC, bVar, tTru, tBool, tNotB, tAndB, tOrB, bAnd, bOr, bNot, bIf, wIf, evX, bTup, wLst, wPrim, wVal, eFrz, wCall, sOk, sRet, sSet, sIf, sSeq, sDrop, sPar, evW, setAll, Tg.asg, Tg.asgs, mMut, sPutL, bGet, sPutD, wDisp, ePub, bIxL, sPutS, mChk, mInt, D.isStr, D.isInt, D.tru, fLen_l, fLen_t, List.length_map, iVal, itemsD, iRange, plainS, wipeE, backE, wComp, wCompB, List.all_cons, List.all_nil, Slot.isVal, Bool.and_true, Bool.true_and, Bool.and_self, fsem, env0, fill, wMove, Slot.frz, List.getElem?_cons_zero, List.getElem?_cons_succ, List.set_cons_zero, List.set_cons_succ, List.map_cons, List.map_nil, List.cons_append, List.nil_append, List.reduceReplicate, Option.getD_some, List.length_cons, List.length_nil, List.getD_cons_zero, List.getD_cons_succ, Nat.reduceAdd, Nat.reduceSub, Option.map_some, if_true, if_false, ite_true, ite_false, Bool.false_eq_true, reduceIte, Nat.reduceLeDiff, Nat.reduceEqDiff, Int.reduceEq, Int.reduceNe, Int.reduceLT, Int.reduceLE, Int.reduceNeg, Int.reducePow, ne_eq, not_false_eq_true, decide_true, decide_false, true_and, and_true, true_or, or_true, and_self, Bool.not_true, Bool.not_false, reduceCtorEq, ev, l1, l2, Option.isSome_none, Option.isSome_some]
      rfl
    | some k =>
      refine ⟨envS base left right C1 C2 (some (Slot.val (.int (j : Nat)))), envS base left right C1 C2 (some (Slot.val (.int (j : Nat)))), ?_, ?_, rfl⟩
      · simp only [m_parts_by_0, Int.ofNat_lt, Int.ofNat_le, bind_ok, bind_exc, bind_stuck, sizeLine_eq, fMod_i, fFdiv_i, fMul_i, fMul_i1, fMul_i2, fm0, fm1, fAdd_i, fSub_i, fPow_i, fAdd_l, fAdd_t, fAdd_s, fLt_i, fLe_i, fGt_i, fGe_i, evO, resW, evR, bPrim, bC, bVar, tTru, tBool, tNotB, tAndB, tOrB, bAnd, bOr, bNot, bIf, wIf, evX, bTup, wLst, wPrim, wVal, eFrz, wCall, sOk, sRet, sSet, sIf, sSeq, sDrop, sPar, evW, setAll, Tg.asg, Tg.asgs, mMut, sPutL, bGet, sPutD, wDisp, ePub, bIxL, sPutS, mChk, mInt, D.isStr, D.isInt, D.tru, fLen_l, fLen_t, List.length_map, iVal, itemsD, iRange, plainS, wipeE, backE, wComp, wCompB, List.all_cons, List.all_nil, Slot.isVal, Bool.and_true, Bool.true_and, Bool.and_self, fsem, env0, fill, wMove, Slot.frz, List.getElem?_cons_zero, List.getElem?_cons_succ, List.set_cons_zero, List.set_cons_succ, List.map_cons, List.map_nil, List.cons_append, List.nil_append, List.reduceReplicate, Option.getD_some, List.length_cons, List.length_nil, List.getD_cons_zero, List.getD_cons_succ, Nat.reduceAdd, Nat.reduceSub, Option.map_some, if_true, if_false, ite_true, ite_false, Bool.false_eq_true, reduceIte, Nat.reduceLeDiff, Nat.reduceEqDiff, Int.reduceEq, Int.reduceNe, Int.reduceLT, Int.reduceLE, Int.reduceNeg, Int.reducePow, ne_eq, not_false_eq_true, decide_true, decide_false, true_and, and_true, true_or, or_true, and_self, Bool.not_true, Bool.not_false, reduceCtorEq, ev, l1, l2, Option.isSome_some]
        rfl
      · simp only [m_parts_by_1, envS, Int.ofNat_lt, Int.ofNat_le, bind_ok, bind_exc, bind_stuck, sizeLine_eq, fMod_i, fFdiv_i, fMul_i, fMul_i1, fMul_i2, fm0, fm1, fAdd_i, fSub_i, fPow_i, fAdd_l, fAdd_t, fAdd_s, fLt_i, fLe_i, fGt_i, fGe_i, evO, resW, evR, bPrim, bC, bVar, tTru, tBool, tNotB, tAndB, tOrB, bAnd, bOr, bNot, bIf, wIf, evX, bTup, wLst, wPrim, wVal, eFrz, wCall, sOk, sRet, sSet, sIf, sSeq, sDrop, sPar, evW, setAll, Tg.asg, Tg.asgs, mMut, sPutL, bGet, sPutD, wDisp, ePub, bIxL, sPutS, mChk, mInt, D.isStr, D.isInt, D.tru, fLen_l, fLen_t, List.length_map, iVal, itemsD, iRange, plainS, wipeE, backE, wComp, wCompB, List.all_cons, List.all_nil, Slot.isVal, Bool.and_true, Bool.true_and, Bool.and_self, fsem, env0, fill, wMove, Slot.frz, List.getElem?_cons_zero, List.getElem?_cons_succ, List.set_cons_zero, List.set_cons_succ, List.map_cons, List.map_nil, List.cons_append, List.nil_append, List.reduceReplicate, Option.getD_some, List.length_cons, List.length_nil, List.getD_cons_zero, List.getD_cons_succ, Nat.reduceAdd, Nat.reduceSub, Option.map_some, if_true, if_false, ite_true, ite_false, Bool.false_eq_true, reduceIte, Nat.reduceLeDiff, Nat.reduceEqDiff, Int.reduceEq, Int.reduceNe, Int.reduceLT, Int.reduceLE, Int.reduceNeg, Int.reducePow, ne_eq, not_false_eq_true, decide_true, decide_false, true_and, and_true, true_or, or_true, and_self, Bool.not_true, Bool.not_false, reduceCtorEq, ix_dct l1, ix_dct l2]
        rfl
theorem tris_comm (base left right : List Str) : Tris base left right (tri (comm base left) (comm base right)) (0, 0, 0) :=
  tri_tris (comm_rise base right) (fun q hq => comm_like hq) _ _ (comm_rise base left) (fun q hq => comm_like hq) (fun _ _ => ⟨Nat.zero_le _, Nat.zero_le _⟩) fun _ _ _ => Nat.zero_le _
theorem tri_lt {base left right : List Str} : ∀ {ts : List T3} {u : T3}, Tris base left right ts u → ∀ t ∈ ts, t.1 < base.length
  | [], _, _, t, ht => by cases ht
  | t :: ts, u, h, s, hs => by
    rcases List.mem_cons.mp hs with e | e
    · subst e; exact h.1.lt.1
    · exact tri_lt h.2 s e
def T (base left right : List Str) : List T3 := tri (comm base left) (comm base right)
theorem T_len {base left right : List Str} : (T base left right).length ≤ base.length := by
  have := tri_len (C1 := comm base left) (comm_rise base right)
  have := comm_le (one := base) (other := left)
  unfold T
  omega
theorem T_range (base left right : List Str) : (List.range base.length).filterMap (triF (comm base left) (comm base right)) = T base left right :=
  tri_range (comm_rise base left) (comm_rise base right) fun p hp => (comm_mem hp).1
def PS (base left right : List Str) : List (Pt Str) := parts base left right (T base left right)
theorem PS_eq (base left right : List Str) : PS base left right = (pc base left right (ends base left right) (lastU (T base left right) (0, 0, 0))).foldl mstep ((pre base left right (T base left right) (0, 0, 0)).foldl mstep []) := by
  unfold PS parts
  rw [pcs_pre, List.foldl_append]
theorem PS_ok {base left right : List Str} (h : L3 base left right) : ∀ p ∈ PS base left right, PtOk p := by
  rw [PS_eq]
  exact fold_ok (fold_ok (fun q hq => by cases hq) (pre_ok h _ _)) (pc_ok h _ _)
theorem PS_len {base left right : List Str} (h : L3 base left right) : (PS base left right).length ≤ 41 := by
  have := parts_len (base := base) (left := left) (right := right) (ts := T base left right)
  have := T_len (base := base) (left := left) (right := right)
  have := h.b
  unfold PS
  omega
theorem parts_by_ok {base left right : List Str} (h : L3 base left right) (S : Sto) : ∃ X, F_parts_by [.tup (dl base), .tup (dl left), .tup (dl right)] S = .ok (.own (ptsD (PS base left right))) [] (S ++ X) := by
  have hb := h.b
  have hl := h.l
  have hr := h.r
  have r1 := row_of_ok (one := base) (other := left) (by omega) (by omega) S
  have r2 := row_of_ok (one := base) (other := right) (by omega) (by omega) (S ++ stT (L base left) base.length left.length)
  have d1 : fDict [.lst (prD (comm base left))] = some (dctD (comm base left)) := dict_prD (comm_rise base left)
  have d2 : fDict [.lst (prD (comm base right))] = some (dctD (comm base right)) := dict_prD (comm_rise base right)
  have rg := range1_ok base.length (by omega)
  have st := stays_ok (base := base) (left := left) (right := right) (C1 := comm base left) (C2 := comm base right) (by omega) (S ++ stT (L base left) base.length left.length ++ stT (L base right) base.length right.length)
  rw [T_range] at st
  have tl := T_len (base := base) (left := left) (right := right)
  obtain ⟨x7, x8, x9, x10, lp⟩ := pb_loop h (x3 := some (.own ((T base left right).map triD))) (x4 := (some (Slot.val (dctD (comm base left))))) (x5 := (some (Slot.val (dctD (comm base right))))) (S ++ stT (L base left) base.length left.length ++ stT (L base right) base.length right.length) (T base left right) (0, 0, 0) [] none none none none (by simp; omega) (fun p hp => by cases hp) (fun p hp => by cases hp) (tri_lt (tris_comm base left right))
  have pl := pre_len base left right (T base left right) (0, 0, 0)
  have fin := pb_last h (x3 := some (.own ((T base left right).map triD))) (x4 := (some (Slot.val (dctD (comm base left))))) (x5 := (some (Slot.val (dctD (comm base right))))) (x10 := x10) (found := (pre base left right (T base left right) (0, 0, 0)).foldl mstep []) (t := ends base left right) (u := lastU (T base left right) (0, 0, 0)) (by
    have := fold_len (pre base left right (T base left right) (0, 0, 0)) []
    simp at this
    omega) (fold_ok (fun q hq => by cases hq) (pre_ok h _ _)) rfl (S ++ stT (L base left) base.length left.length ++ stT (L base right) base.length right.length)
  have lf : forL (.tp [.nm 7, .nm 8, .nm 9]) m_parts_by_2 ((T base left right).map triD ++ [.tup [.int (base.length : Nat), .int (left.length : Nat), .int (right.length : Nat)]]) [(some (Slot.val (.tup (dl base)))), (some (Slot.val (.tup (dl left)))), (some (Slot.val (.tup (dl right)))), some (.own ((T base left right).map triD)), (some (Slot.val (dctD (comm base left)))), (some (Slot.val (dctD (comm base right)))), some (.own []), none, none, none, none, (some (Slot.val (.int 0))), (some (Slot.val (.int 0))), (some (Slot.val (.int 0)))] (S ++ stT (L base left) base.length left.length ++ stT (L base right) base.length right.length) = _ :=
    (lp _).trans ((forL_step (show Tg.asg _ (triD (ends base left right)) _ = some _ from rfl) fin []).trans rfl)
  have ap : fAdd [.lst ((T base left right).map triD), .lst [.tup [.int (base.length : Nat), .int (left.length : Nat), .int (right.length : Nat)]]] = some (.lst ((T base left right).map triD ++ [.tup [.int (base.length : Nat), .int (left.length : Nat), .int (right.length : Nat)]])) := fAdd_l _ _ (by simp; omega)
  refine ⟨stT (L base left) base.length left.length ++ stT (L base right) base.length right.length, ?_⟩
  rw [← List.append_assoc, PS_eq]
  simp only [F_parts_by, m_parts_by, Int.ofNat_lt, Int.ofNat_le, bind_ok, bind_exc, bind_stuck, sizeLine_eq, fMod_i, fFdiv_i, fMul_i, fMul_i1, fMul_i2, fm0, fm1, fAdd_i, fSub_i, fPow_i, fAdd_l, fAdd_t, fAdd_s, fLt_i, fLe_i, fGt_i, fGe_i, evO, resW, evR, bPrim, bC, bVar, tTru, tBool, tNotB, tAndB, tOrB, bAnd, bOr, bNot, bIf, wIf, evX, bTup, wLst, wPrim, wVal, eFrz, wCall, sOk, sRet, sSet, sIf, sSeq, sDrop, sPar, evW, setAll, Tg.asg, Tg.asgs, mMut, sPutL, bGet, sPutD, wDisp, ePub, bIxL, sPutS, mChk, mInt, D.isStr, D.isInt, D.tru, fLen_l, fLen_t, List.length_map, iVal, itemsD, iRange, plainS, wipeE, backE, wComp, wCompB, List.all_cons, List.all_nil, Slot.isVal, Bool.and_true, Bool.true_and, Bool.and_self, fsem, env0, fill, wMove, Slot.frz, List.getElem?_cons_zero, List.getElem?_cons_succ, List.set_cons_zero, List.set_cons_succ, List.map_cons, List.map_nil, List.cons_append, List.nil_append, List.reduceReplicate, Option.getD_some, List.length_cons, List.length_nil, List.getD_cons_zero, List.getD_cons_succ, Nat.reduceAdd, Nat.reduceSub, Option.map_some, if_true, if_false, ite_true, ite_false, Bool.false_eq_true, reduceIte, Nat.reduceLeDiff, Nat.reduceEqDiff, Int.reduceEq, Int.reduceNe, Int.reduceLT, Int.reduceLE, Int.reduceNeg, Int.reducePow, ne_eq, not_false_eq_true, decide_true, decide_false, true_and, and_true, true_or, or_true, and_self, Bool.not_true, Bool.not_false, reduceCtorEq, r1, r2, d1, d2, dl_length, rg]
  rw [st]
  simp only [Int.ofNat_lt, Int.ofNat_le, bind_ok, bind_exc, bind_stuck, sizeLine_eq, fMod_i, fFdiv_i, fMul_i, fMul_i1, fMul_i2, fm0, fm1, fAdd_i, fSub_i, fPow_i, fAdd_l, fAdd_t, fAdd_s, fLt_i, fLe_i, fGt_i, fGe_i, evO, resW, evR, bPrim, bC, bVar, tTru, tBool, tNotB, tAndB, tOrB, bAnd, bOr, bNot, bIf, wIf, evX, bTup, wLst, wPrim, wVal, eFrz, wCall, sOk, sRet, sSet, sIf, sSeq, sDrop, sPar, evW, setAll, Tg.asg, Tg.asgs, mMut, sPutL, bGet, sPutD, wDisp, ePub, bIxL, sPutS, mChk, mInt, D.isStr, D.isInt, D.tru, fLen_l, fLen_t, List.length_map, iVal, itemsD, iRange, plainS, wipeE, backE, wComp, wCompB, List.all_cons, List.all_nil, Slot.isVal, Bool.and_true, Bool.true_and, Bool.and_self, fsem, env0, fill, wMove, Slot.frz, List.getElem?_cons_zero, List.getElem?_cons_succ, List.set_cons_zero, List.set_cons_succ, List.map_cons, List.map_nil, List.cons_append, List.nil_append, List.reduceReplicate, Option.getD_some, List.length_cons, List.length_nil, List.getD_cons_zero, List.getD_cons_succ, Nat.reduceAdd, Nat.reduceSub, Option.map_some, if_true, if_false, ite_true, ite_false, Bool.false_eq_true, reduceIte, Nat.reduceLeDiff, Nat.reduceEqDiff, Int.reduceEq, Int.reduceNe, Int.reduceLT, Int.reduceLE, Int.reduceNeg, Int.reducePow, ne_eq, not_false_eq_true, decide_true, decide_false, true_and, and_true, true_or, or_true, and_self, Bool.not_true, Bool.not_false, reduceCtorEq, sParL, sFor, dl_length, ap]
  rw [lf]
  rfl

/-! ### the law's own parts -/
theorem tri_0 (t : T3) : fIx [triD t, .int 0] = some (.int (t.1 : Nat)) := rfl
theorem tri_1 (t : T3) : fIx [triD t, .int 1] = some (.int (t.2.1 : Nat)) := rfl
theorem tri_2 (t : T3) : fIx [triD t, .int 2] = some (.int (t.2.2 : Nat)) := rfl
def pairD (p : Nat × Nat) : D := .tup [.int (p.1 : Nat), .int (p.2 : Nat)]
def extF (p : Nat × Nat) : D → Option D
  | .tup [.int a, .int j] => if a = (p.1 : Nat) then some (.tup [.int (p.1 : Nat), .int (p.2 : Nat), .int j]) else none
  | _ => none
theorem extF_eq (p : Nat × Nat) (a j : Int) : extF p (.tup [.int a, .int j]) = if a = (p.1 : Nat) then some (.tup [.int (p.1 : Nat), .int (p.2 : Nat), .int j]) else none := rfl
theorem extF_ok (p : Nat × Nat) (C2 : List (Nat × Nat)) : (prD C2).filterMap (extF p) = ((C2.filter fun q => q.1 = p.1).map fun q => (p.1, p.2, q.2)).map triD := by
  induction C2 with
  | nil => rfl
  | cons q C2 ih =>
    show (D.tup [.int (q.1 : Nat), .int (q.2 : Nat)] :: prD C2).filterMap (extF p) = _
    by_cases e : q.1 = p.1
    · rw [List.filter_cons_of_pos (by simpa using e), List.filterMap_cons_some ((extF_eq p _ _).trans (if_pos (by omega))), ih]
      rfl
    · rw [List.filter_cons_of_neg (by simpa using e), List.filterMap_cons_none ((extF_eq p _ _).trans (if_neg (by omega))), ih]
def envY (base left right : List Str) (C2 : List (Nat × Nat)) (x4 : Option Slot) (x5 : Slot) (found : List T3) (x6 x7 x8 x9 : Option Slot) : Env := [(some (Slot.val (.tup (dl base)))), (some (Slot.val (.tup (dl left)))), (some (Slot.val (.tup (dl right)))), some (.own (found.map triD)), x4, some x5, x6, x7, x8, x9]
theorem ext_step {base left right : List Str} {C2 : List (Nat × Nat)} {x4 : Option Slot} {x5 : Slot} {found : List T3} {p : Nat × Nat} (hx : x5 = .own (prD C2) ∨ x5 = .val (.lst (prD C2))) (h2 : C2.length ≤ 60) (hf : found.length ≤ 10000) (S : Sto) :
    m__law_stays_2 (envY base left right C2 x4 x5 found (some (Slot.val (.int (p.1 : Nat)))) (some (Slot.val (.int (p.2 : Nat)))) none none) S =
      .ok .next (envY base left right C2 x4 (.val (.lst (prD C2))) (found ++ (C2.filter fun q => q.1 = p.1).map fun q => (p.1, p.2, q.2)) (some (Slot.val (.int (p.1 : Nat)))) (some (Slot.val (.int (p.2 : Nat)))) none none) S := by
  have main := compF_run (vs := [8, 9]) (t := .tp [.nm 8, .nm 9]) (tt := m__law_stays_0) (m := m__law_stays_1) (e0 := envY base left right C2 x4 (.val (.lst (prD C2))) found (some (Slot.val (.int (p.1 : Nat)))) (some (Slot.val (.int (p.2 : Nat)))) none none) (S0 := S) (extF p) (prD C2) [] (by simp [prD]; omega) fun d hd => by
    unfold prD at hd
    obtain ⟨q, hq, rfl⟩ := List.mem_map.mp hd
    refine ⟨envY base left right C2 x4 (.val (.lst (prD C2))) found (some (Slot.val (.int (p.1 : Nat)))) (some (Slot.val (.int (p.2 : Nat)))) (some (Slot.val (.int (q.1 : Nat)))) (some (Slot.val (.int (q.2 : Nat)))), rfl, ?_⟩
    by_cases e : q.1 = p.1
    · rw [show extF p (.tup [.int (q.1 : Nat), .int (q.2 : Nat)]) = some (.tup [.int (p.1 : Nat), .int (p.2 : Nat), .int (q.2 : Nat)]) from if_pos (by omega)]
      refine ⟨envY base left right C2 x4 (.val (.lst (prD C2))) found (some (Slot.val (.int (p.1 : Nat)))) (some (Slot.val (.int (p.2 : Nat)))) (some (Slot.val (.int (q.1 : Nat)))) (some (Slot.val (.int (q.2 : Nat)))), envY base left right C2 x4 (.val (.lst (prD C2))) found (some (Slot.val (.int (p.1 : Nat)))) (some (Slot.val (.int (p.2 : Nat)))) (some (Slot.val (.int (q.1 : Nat)))) (some (Slot.val (.int (q.2 : Nat)))), ?_, ?_, rfl⟩
      · simp only [m__law_stays_0, envY, Int.ofNat_lt, Int.ofNat_le, bind_ok, bind_exc, bind_stuck, sizeLine_eq, fMod_i, fFdiv_i, fMul_i, fMul_i1, fMul_i2, fm0, fm1, fAdd_i, fSub_i, fPow_i, fAdd_l, fAdd_t, fAdd_s, fLt_i, fLe_i, fGt_i, fGe_i, evO, resW, evR, bPrim, bC, bVar, tTru, tBool, tNotB, tAndB, tOrB, bAnd, bOr, bNot, bIf, wIf, evX, bTup, wLst, wPrim, wVal, eFrz, wCall, sOk, sRet, sSet, sIf, sSeq, sDrop, sPar, evW, setAll, Tg.asg, Tg.asgs, mMut, sPutL, bGet, sPutD, wDisp, ePub, bIxL, sPutS, mChk, mInt, D.isStr, D.isInt, D.tru, fLen_l, fLen_t, List.length_map, iVal, itemsD, iRange, plainS, wipeE, backE, wComp, wCompB, List.all_cons, List.all_nil, Slot.isVal, Bool.and_true, Bool.true_and, Bool.and_self, fsem, env0, fill, wMove, Slot.frz, List.getElem?_cons_zero, List.getElem?_cons_succ, List.set_cons_zero, List.set_cons_succ, List.map_cons, List.map_nil, List.cons_append, List.nil_append, List.reduceReplicate, Option.getD_some, List.length_cons, List.length_nil, List.getD_cons_zero, List.getD_cons_succ, Nat.reduceAdd, Nat.reduceSub, Option.map_some, if_true, if_false, ite_true, ite_false, Bool.false_eq_true, reduceIte, Nat.reduceLeDiff, Nat.reduceEqDiff, Int.reduceEq, Int.reduceNe, Int.reduceLT, Int.reduceLE, Int.reduceNeg, Int.reducePow, ne_eq, not_false_eq_true, decide_true, decide_false, true_and, and_true, true_or, or_true, and_self, Bool.not_true, Bool.not_false, reduceCtorEq, eq_n, e]
      · simp only [m__law_stays_1, envY, Int.ofNat_lt, Int.ofNat_le, bind_ok, bind_exc, bind_stuck, sizeLine_eq, fMod_i, fFdiv_i, fMul_i, fMul_i1, fMul_i2, fm0, fm1, fAdd_i, fSub_i, fPow_i, fAdd_l, fAdd_t, fAdd_s, fLt_i, fLe_i, fGt_i, fGe_i, evO, resW, evR, bPrim, bC, bVar, tTru, tBool, tNotB, tAndB, tOrB, bAnd, bOr, bNot, bIf, wIf, evX, bTup, wLst, wPrim, wVal, eFrz, wCall, sOk, sRet, sSet, sIf, sSeq, sDrop, sPar, evW, setAll, Tg.asg, Tg.asgs, mMut, sPutL, bGet, sPutD, wDisp, ePub, bIxL, sPutS, mChk, mInt, D.isStr, D.isInt, D.tru, fLen_l, fLen_t, List.length_map, iVal, itemsD, iRange, plainS, wipeE, backE, wComp, wCompB, List.all_cons, List.all_nil, Slot.isVal, Bool.and_true, Bool.true_and, Bool.and_self, fsem, env0, fill, wMove, Slot.frz, List.getElem?_cons_zero, List.getElem?_cons_succ, List.set_cons_zero, List.set_cons_succ, List.map_cons, List.map_nil, List.cons_append, List.nil_append, List.reduceReplicate, Option.getD_some, List.length_cons, List.length_nil, List.getD_cons_zero, List.getD_cons_succ, Nat.reduceAdd, Nat.reduceSub, Option.map_some, if_true, if_false, ite_true, ite_false, Bool.false_eq_true, reduceIte, Nat.reduceLeDiff, Nat.reduceEqDiff, Int.reduceEq, Int.reduceNe, Int.reduceLT, Int.reduceLE, Int.reduceNeg, Int.reducePow, ne_eq, not_false_eq_true, decide_true, decide_false, true_and, and_true, true_or, or_true, and_self, Bool.not_true, Bool.not_false, reduceCtorEq]
    · rw [show extF p (.tup [.int (q.1 : Nat), .int (q.2 : Nat)]) = none from if_neg (by omega)]
      refine ⟨envY base left right C2 x4 (.val (.lst (prD C2))) found (some (Slot.val (.int (p.1 : Nat)))) (some (Slot.val (.int (p.2 : Nat)))) (some (Slot.val (.int (q.1 : Nat)))) (some (Slot.val (.int (q.2 : Nat)))), ?_, rfl⟩
      simp only [m__law_stays_0, envY, Int.ofNat_lt, Int.ofNat_le, bind_ok, bind_exc, bind_stuck, sizeLine_eq, fMod_i, fFdiv_i, fMul_i, fMul_i1, fMul_i2, fm0, fm1, fAdd_i, fSub_i, fPow_i, fAdd_l, fAdd_t, fAdd_s, fLt_i, fLe_i, fGt_i, fGe_i, evO, resW, evR, bPrim, bC, bVar, tTru, tBool, tNotB, tAndB, tOrB, bAnd, bOr, bNot, bIf, wIf, evX, bTup, wLst, wPrim, wVal, eFrz, wCall, sOk, sRet, sSet, sIf, sSeq, sDrop, sPar, evW, setAll, Tg.asg, Tg.asgs, mMut, sPutL, bGet, sPutD, wDisp, ePub, bIxL, sPutS, mChk, mInt, D.isStr, D.isInt, D.tru, fLen_l, fLen_t, List.length_map, iVal, itemsD, iRange, plainS, wipeE, backE, wComp, wCompB, List.all_cons, List.all_nil, Slot.isVal, Bool.and_true, Bool.true_and, Bool.and_self, fsem, env0, fill, wMove, Slot.frz, List.getElem?_cons_zero, List.getElem?_cons_succ, List.set_cons_zero, List.set_cons_succ, List.map_cons, List.map_nil, List.cons_append, List.nil_append, List.reduceReplicate, Option.getD_some, List.length_cons, List.length_nil, List.getD_cons_zero, List.getD_cons_succ, Nat.reduceAdd, Nat.reduceSub, Option.map_some, if_true, if_false, ite_true, ite_false, Bool.false_eq_true, reduceIte, Nat.reduceLeDiff, Nat.reduceEqDiff, Int.reduceEq, Int.reduceNe, Int.reduceLT, Int.reduceLE, Int.reduceNeg, Int.reducePow, ne_eq, not_false_eq_true, decide_true, decide_false, true_and, and_true, true_or, or_true, and_self, Bool.not_true, Bool.not_false, reduceCtorEq, eq_n, e]
  rw [extF_ok, List.nil_append] at main
  have hz : found.length + ((C2.filter fun q => q.1 = p.1).map fun q => (p.1, p.2, q.2)).length ≤ 16777216 := by
    have := List.length_filter_le (fun q : Nat × Nat => decide (q.1 = p.1)) C2
    simp only [List.length_map]
    omega
  simp only [List.length_map] at hz
  unfold envY at main
  rcases hx with rfl | rfl
  · simp only [m__law_stays_2, envY, mExt, Int.ofNat_lt, Int.ofNat_le, bind_ok, bind_exc, bind_stuck, sizeLine_eq, fMod_i, fFdiv_i, fMul_i, fMul_i1, fMul_i2, fm0, fm1, fAdd_i, fSub_i, fPow_i, fAdd_l, fAdd_t, fAdd_s, fLt_i, fLe_i, fGt_i, fGe_i, evO, resW, evR, bPrim, bC, bVar, tTru, tBool, tNotB, tAndB, tOrB, bAnd, bOr, bNot, bIf, wIf, evX, bTup, wLst, wPrim, wVal, eFrz, wCall, sOk, sRet, sSet, sIf, sSeq, sDrop, sPar, evW, setAll, Tg.asg, Tg.asgs, mMut, sPutL, bGet, sPutD, wDisp, ePub, bIxL, sPutS, mChk, mInt, D.isStr, D.isInt, D.tru, fLen_l, fLen_t, List.length_map, iVal, itemsD, iRange, plainS, wipeE, backE, wComp, wCompB, List.all_cons, List.all_nil, Slot.isVal, Bool.and_true, Bool.true_and, Bool.and_self, fsem, env0, fill, wMove, Slot.frz, List.getElem?_cons_zero, List.getElem?_cons_succ, List.set_cons_zero, List.set_cons_succ, List.map_cons, List.map_nil, List.cons_append, List.nil_append, List.reduceReplicate, Option.getD_some, List.length_cons, List.length_nil, List.getD_cons_zero, List.getD_cons_succ, Nat.reduceAdd, Nat.reduceSub, Option.map_some, if_true, if_false, ite_true, ite_false, Bool.false_eq_true, reduceIte, Nat.reduceLeDiff, Nat.reduceEqDiff, Int.reduceEq, Int.reduceNe, Int.reduceLT, Int.reduceLE, Int.reduceNeg, Int.reducePow, ne_eq, not_false_eq_true, decide_true, decide_false, true_and, and_true, true_or, or_true, and_self, Bool.not_true, Bool.not_false, reduceCtorEq]
    rw [main]
    simp only [Int.ofNat_lt, Int.ofNat_le, bind_ok, bind_exc, bind_stuck, sizeLine_eq, fMod_i, fFdiv_i, fMul_i, fMul_i1, fMul_i2, fm0, fm1, fAdd_i, fSub_i, fPow_i, fAdd_l, fAdd_t, fAdd_s, fLt_i, fLe_i, fGt_i, fGe_i, evO, resW, evR, bPrim, bC, bVar, tTru, tBool, tNotB, tAndB, tOrB, bAnd, bOr, bNot, bIf, wIf, evX, bTup, wLst, wPrim, wVal, eFrz, wCall, sOk, sRet, sSet, sIf, sSeq, sDrop, sPar, evW, setAll, Tg.asg, Tg.asgs, mMut, sPutL, bGet, sPutD, wDisp, ePub, bIxL, sPutS, mChk, mInt, D.isStr, D.isInt, D.tru, fLen_l, fLen_t, List.length_map, iVal, itemsD, iRange, plainS, wipeE, backE, wComp, wCompB, List.all_cons, List.all_nil, Slot.isVal, Bool.and_true, Bool.true_and, Bool.and_self, fsem, env0, fill, wMove, Slot.frz, List.getElem?_cons_zero, List.getElem?_cons_succ, List.set_cons_zero, List.set_cons_succ, List.map_cons, List.map_nil, List.cons_append, List.nil_append, List.reduceReplicate, Option.getD_some, List.length_cons, List.length_nil, List.getD_cons_zero, List.getD_cons_succ, Nat.reduceAdd, Nat.reduceSub, Option.map_some, if_true, if_false, ite_true, ite_false, Bool.false_eq_true, reduceIte, Nat.reduceLeDiff, Nat.reduceEqDiff, Int.reduceEq, Int.reduceNe, Int.reduceLT, Int.reduceLE, Int.reduceNeg, Int.reducePow, ne_eq, not_false_eq_true, decide_true, decide_false, true_and, and_true, true_or, or_true, and_self, Bool.not_true, Bool.not_false, reduceCtorEq, hz, ← List.map_append]
  · simp only [m__law_stays_2, envY, mExt, Int.ofNat_lt, Int.ofNat_le, bind_ok, bind_exc, bind_stuck, sizeLine_eq, fMod_i, fFdiv_i, fMul_i, fMul_i1, fMul_i2, fm0, fm1, fAdd_i, fSub_i, fPow_i, fAdd_l, fAdd_t, fAdd_s, fLt_i, fLe_i, fGt_i, fGe_i, evO, resW, evR, bPrim, bC, bVar, tTru, tBool, tNotB, tAndB, tOrB, bAnd, bOr, bNot, bIf, wIf, evX, bTup, wLst, wPrim, wVal, eFrz, wCall, sOk, sRet, sSet, sIf, sSeq, sDrop, sPar, evW, setAll, Tg.asg, Tg.asgs, mMut, sPutL, bGet, sPutD, wDisp, ePub, bIxL, sPutS, mChk, mInt, D.isStr, D.isInt, D.tru, fLen_l, fLen_t, List.length_map, iVal, itemsD, iRange, plainS, wipeE, backE, wComp, wCompB, List.all_cons, List.all_nil, Slot.isVal, Bool.and_true, Bool.true_and, Bool.and_self, fsem, env0, fill, wMove, Slot.frz, List.getElem?_cons_zero, List.getElem?_cons_succ, List.set_cons_zero, List.set_cons_succ, List.map_cons, List.map_nil, List.cons_append, List.nil_append, List.reduceReplicate, Option.getD_some, List.length_cons, List.length_nil, List.getD_cons_zero, List.getD_cons_succ, Nat.reduceAdd, Nat.reduceSub, Option.map_some, if_true, if_false, ite_true, ite_false, Bool.false_eq_true, reduceIte, Nat.reduceLeDiff, Nat.reduceEqDiff, Int.reduceEq, Int.reduceNe, Int.reduceLT, Int.reduceLE, Int.reduceNeg, Int.reducePow, ne_eq, not_false_eq_true, decide_true, decide_false, true_and, and_true, true_or, or_true, and_self, Bool.not_true, Bool.not_false, reduceCtorEq]
    rw [main]
    simp only [Int.ofNat_lt, Int.ofNat_le, bind_ok, bind_exc, bind_stuck, sizeLine_eq, fMod_i, fFdiv_i, fMul_i, fMul_i1, fMul_i2, fm0, fm1, fAdd_i, fSub_i, fPow_i, fAdd_l, fAdd_t, fAdd_s, fLt_i, fLe_i, fGt_i, fGe_i, evO, resW, evR, bPrim, bC, bVar, tTru, tBool, tNotB, tAndB, tOrB, bAnd, bOr, bNot, bIf, wIf, evX, bTup, wLst, wPrim, wVal, eFrz, wCall, sOk, sRet, sSet, sIf, sSeq, sDrop, sPar, evW, setAll, Tg.asg, Tg.asgs, mMut, sPutL, bGet, sPutD, wDisp, ePub, bIxL, sPutS, mChk, mInt, D.isStr, D.isInt, D.tru, fLen_l, fLen_t, List.length_map, iVal, itemsD, iRange, plainS, wipeE, backE, wComp, wCompB, List.all_cons, List.all_nil, Slot.isVal, Bool.and_true, Bool.true_and, Bool.and_self, fsem, env0, fill, wMove, Slot.frz, List.getElem?_cons_zero, List.getElem?_cons_succ, List.set_cons_zero, List.set_cons_succ, List.map_cons, List.map_nil, List.cons_append, List.nil_append, List.reduceReplicate, Option.getD_some, List.length_cons, List.length_nil, List.getD_cons_zero, List.getD_cons_succ, Nat.reduceAdd, Nat.reduceSub, Option.map_some, if_true, if_false, ite_true, ite_false, Bool.false_eq_true, reduceIte, Nat.reduceLeDiff, Nat.reduceEqDiff, Int.reduceEq, Int.reduceNe, Int.reduceLT, Int.reduceLE, Int.reduceNeg, Int.reducePow, ne_eq, not_false_eq_true, decide_true, decide_false, true_and, and_true, true_or, or_true, and_self, Bool.not_true, Bool.not_false, reduceCtorEq, hz, ← List.map_append]
theorem law_stays_ok {base left right : List Str} (h : L3 base left right) (S : Sto) : F__law_stays [.tup (dl base), .tup (dl left), .tup (dl right)] S = .ok (.own ((T base left right).map triD)) [] S := by
  have hb := h.b
  have hl := h.l
  have hr := h.r
  have r1 := law_row_ok (one := base) (other := left) (by omega) (by omega) S
  have r2 := law_row_ok (one := base) (other := right) (by omega) (by omega) S
  have c2 := comm_le (one := base) (other := right)
  have c1 := comm_le (one := base) (other := left)
  obtain ⟨e', S', k1, x5, x6, x7, k2, k3, rfl, rfl⟩ := forL_rel (t := .tp [.nm 6, .nm 7]) (m := m__law_stays_2) pairD (fun i (f : List T3) e S' => ∃ (x5 : Slot) (x6 x7 : Option Slot), (x5 = .own (prD (comm base right)) ∨ x5 = .val (.lst (prD (comm base right)))) ∧ f.length ≤ 60 * i ∧ e = envY base left right (comm base right) (some (Slot.val (.lst (prD (comm base left))))) x5 f x6 x7 none none ∧ S' = S)
    (fun f p => f ++ ((comm base right).filter fun q => q.1 = p.1).map fun q => (p.1, p.2, q.2)) (comm base left) 0 [] (envY base left right (comm base right) (some (Slot.val (.lst (prD (comm base left))))) (.own (prD (comm base right))) [] none none none none) S ⟨_, _, _, .inl rfl, Nat.le_refl _, rfl, rfl⟩ fun i f e S' p hp hi hR => by
      obtain ⟨y5, y6, y7, q1, q2, rfl, rfl⟩ := hR
      refine ⟨envY base left right (comm base right) (some (Slot.val (.lst (prD (comm base left))))) y5 f (some (Slot.val (.int (p.1 : Nat)))) (some (Slot.val (.int (p.2 : Nat)))) none none, _, S', rfl, ext_step q1 (by omega) (by omega) S', _, _, _, .inr rfl, ?_, rfl, rfl⟩
      have := List.length_filter_le (fun q : Nat × Nat => decide (q.1 = p.1)) (comm base right)
      rw [List.length_append, List.length_map]
      omega
  have ef : ∀ (C : List (Nat × Nat)) (f : List T3), C.foldl (fun f p => f ++ ((comm base right).filter fun q => q.1 = p.1).map fun q => (p.1, p.2, q.2)) f = f ++ tri C (comm base right) := by
    intro C
    induction C with
    | nil => intro f; exact (List.append_nil _).symm
    | cons p C ih => intro f; rw [List.foldl_cons, ih, tri_cons, List.append_assoc]
  rw [ef, List.nil_append] at k1
  have lp := forL_end k1
  have pd : (comm base left).map pairD = prD (comm base left) := rfl
  rw [pd] at lp
  simp only [F__law_stays, m__law_stays, Int.ofNat_lt, Int.ofNat_le, bind_ok, bind_exc, bind_stuck, sizeLine_eq, fMod_i, fFdiv_i, fMul_i, fMul_i1, fMul_i2, fm0, fm1, fAdd_i, fSub_i, fPow_i, fAdd_l, fAdd_t, fAdd_s, fLt_i, fLe_i, fGt_i, fGe_i, evO, resW, evR, bPrim, bC, bVar, tTru, tBool, tNotB, tAndB, tOrB, bAnd, bOr, bNot, bIf, wIf, evX, bTup, wLst, wPrim, wVal, eFrz, wCall, sOk, sRet, sSet, sIf, sSeq, sDrop, sPar, evW, setAll, Tg.asg, Tg.asgs, mMut, sPutL, bGet, sPutD, wDisp, ePub, bIxL, sPutS, mChk, mInt, D.isStr, D.isInt, D.tru, fLen_l, fLen_t, List.length_map, iVal, itemsD, iRange, plainS, wipeE, backE, wComp, wCompB, List.all_cons, List.all_nil, Slot.isVal, Bool.and_true, Bool.true_and, Bool.and_self, fsem, env0, fill, wMove, Slot.frz, List.getElem?_cons_zero, List.getElem?_cons_succ, List.set_cons_zero, List.set_cons_succ, List.map_cons, List.map_nil, List.cons_append, List.nil_append, List.reduceReplicate, Option.getD_some, List.length_cons, List.length_nil, List.getD_cons_zero, List.getD_cons_succ, Nat.reduceAdd, Nat.reduceSub, Option.map_some, if_true, if_false, ite_true, ite_false, Bool.false_eq_true, reduceIte, Nat.reduceLeDiff, Nat.reduceEqDiff, Int.reduceEq, Int.reduceNe, Int.reduceLT, Int.reduceLE, Int.reduceNeg, Int.reducePow, ne_eq, not_false_eq_true, decide_true, decide_false, true_and, and_true, true_or, or_true, and_self, Bool.not_true, Bool.not_false, reduceCtorEq, r1, r2, sFor]
  unfold envY at lp
  rw [show ([] : List D) = ([] : List T3).map triD from rfl, lp]
  rfl
/-! ### first loop of the law's parts -/
def envA (base left right : List Str) (x4 x5 : Option Slot) (found : List (Pt Str)) (u : T3) (x3 x8 x9 x10 : Option Slot) : Env := [(some (Slot.val (.tup (dl base)))), (some (Slot.val (.tup (dl left)))), (some (Slot.val (.tup (dl right)))), x3, x4, x5, some (.own (ptsD found)), (some (Slot.val (triD u))), x8, x9, x10]
theorem lp1_step {base left right : List Str} (h3 : L3 base left right) {x4 x5 x8 x9 x10 : Option Slot} {found : List (Pt Str)} {t u : T3} (hf : found.length ≤ 1000) (S : Sto) :
    m__law_parts_0 (envA base left right x4 x5 found u (some (Slot.val (triD t))) x8 x9 x10) S = .ok .next (envA base left right x4 x5 (found ++ (pc base left right t u ++ [Pt.st base t.1])) (nx t) (some (Slot.val (triD t))) (some (Slot.val (.tup (dl (mid right u.2.2 t.2.2))))) (some (Slot.val (.tup (dl (mid base u.1 t.1))))) (some (Slot.val (.tup (dl (mid left u.2.1 t.2.1)))))) S := by
  have c1 := ptsD_len found
  have ca : (ptsD found).length + 1 ≤ 16777216 := by rw [c1]; omega
  have cb : (ptsD found).length ≤ 16777215 := by rw [c1]; omega
  have cc : (ptsD found).length ≤ 16777214 := by rw [c1]; omega
  have tn : D.tup [.int ((t.1 + 1 : Nat) : Int), .int ((t.2.1 + 1 : Nat) : Int), .int ((t.2.2 + 1 : Nat) : Int)] = triD (nx t) := rfl
  unfold pc regs
  by_cases q : (mid base u.1 t.1).length + (mid left u.2.1 t.2.1).length + (mid right u.2.2 t.2.2).length = 0
  · have g : ¬ (0 : Int) < ((mid base u.1 t.1).length : Int) + ((mid left u.2.1 t.2.1).length : Int) + ((mid right u.2.2 t.2.2).length : Int) := by omega
    rw [if_pos q, List.nil_append]
    have eP : ptsD (found ++ [Pt.st base t.1]) = ptsD found ++ [ptD (Pt.st base t.1)] := (ptsD_app _ _).symm
    simp only [m__law_parts_0, envA, Int.ofNat_lt, Int.ofNat_le, bind_ok, bind_exc, bind_stuck, sizeLine_eq, fMod_i, fFdiv_i, fMul_i, fMul_i1, fMul_i2, fm0, fm1, fAdd_i, fSub_i, fPow_i, fAdd_l, fAdd_t, fAdd_s, fLt_i, fLe_i, fGt_i, fGe_i, evO, resW, evR, bPrim, bC, bVar, tTru, tBool, tNotB, tAndB, tOrB, bAnd, bOr, bNot, bIf, wIf, evX, bTup, wLst, wPrim, wVal, eFrz, wCall, sOk, sRet, sSet, sIf, sSeq, sDrop, sPar, evW, setAll, Tg.asg, Tg.asgs, mMut, sPutL, bGet, sPutD, wDisp, ePub, bIxL, sPutS, mChk, mInt, D.isStr, D.isInt, D.tru, fLen_l, fLen_t, List.length_map, iVal, itemsD, iRange, plainS, wipeE, backE, wComp, wCompB, List.all_cons, List.all_nil, Slot.isVal, Bool.and_true, Bool.true_and, Bool.and_self, fsem, env0, fill, wMove, Slot.frz, List.getElem?_cons_zero, List.getElem?_cons_succ, List.set_cons_zero, List.set_cons_succ, List.map_cons, List.map_nil, List.cons_append, List.nil_append, List.reduceReplicate, Option.getD_some, List.length_cons, List.length_nil, List.getD_cons_zero, List.getD_cons_succ, Nat.reduceAdd, Nat.reduceSub, Option.map_some, if_true, if_false, ite_true, ite_false, Bool.false_eq_true, reduceIte, Nat.reduceLeDiff, Nat.reduceEqDiff, Int.reduceEq, Int.reduceNe, Int.reduceLT, Int.reduceLE, Int.reduceNeg, Int.reducePow, ne_eq, not_false_eq_true, decide_true, decide_false, true_and, and_true, true_or, or_true, and_self, Bool.not_true, Bool.not_false, reduceCtorEq, tri_0, tri_1, tri_2, sl_mid_t, dl_mid, dl_length, g, mfAppend, List.length_append, ca, cb, cc, cast2, tn, eP]
    rfl
  · have g : (0 : Int) < ((mid base u.1 t.1).length : Int) + ((mid left u.2.1 t.2.1).length : Int) + ((mid right u.2.2 t.2.2).length : Int) := by omega
    rw [if_neg q]
    have eP : ptsD (found ++ [Pt.reg (mid base u.1 t.1) (mid left u.2.1 t.2.1) (mid right u.2.2 t.2.2), Pt.st base t.1]) = ptsD found ++ [ptD (.reg (mid base u.1 t.1) (mid left u.2.1 t.2.1) (mid right u.2.2 t.2.2))] ++ [ptD (Pt.st base t.1)] := by rw [List.append_assoc, ← ptsD_app]; rfl
    simp only [m__law_parts_0, envA, Int.ofNat_lt, Int.ofNat_le, bind_ok, bind_exc, bind_stuck, sizeLine_eq, fMod_i, fFdiv_i, fMul_i, fMul_i1, fMul_i2, fm0, fm1, fAdd_i, fSub_i, fPow_i, fAdd_l, fAdd_t, fAdd_s, fLt_i, fLe_i, fGt_i, fGe_i, evO, resW, evR, bPrim, bC, bVar, tTru, tBool, tNotB, tAndB, tOrB, bAnd, bOr, bNot, bIf, wIf, evX, bTup, wLst, wPrim, wVal, eFrz, wCall, sOk, sRet, sSet, sIf, sSeq, sDrop, sPar, evW, setAll, Tg.asg, Tg.asgs, mMut, sPutL, bGet, sPutD, wDisp, ePub, bIxL, sPutS, mChk, mInt, D.isStr, D.isInt, D.tru, fLen_l, fLen_t, List.length_map, iVal, itemsD, iRange, plainS, wipeE, backE, wComp, wCompB, List.all_cons, List.all_nil, Slot.isVal, Bool.and_true, Bool.true_and, Bool.and_self, fsem, env0, fill, wMove, Slot.frz, List.getElem?_cons_zero, List.getElem?_cons_succ, List.set_cons_zero, List.set_cons_succ, List.map_cons, List.map_nil, List.cons_append, List.nil_append, List.reduceReplicate, Option.getD_some, List.length_cons, List.length_nil, List.getD_cons_zero, List.getD_cons_succ, Nat.reduceAdd, Nat.reduceSub, Option.map_some, if_true, if_false, ite_true, ite_false, Bool.false_eq_true, reduceIte, Nat.reduceLeDiff, Nat.reduceEqDiff, Int.reduceEq, Int.reduceNe, Int.reduceLT, Int.reduceLE, Int.reduceNeg, Int.reducePow, ne_eq, not_false_eq_true, decide_true, decide_false, true_and, and_true, true_or, or_true, and_self, Bool.not_true, Bool.not_false, reduceCtorEq, tri_0, tri_1, tri_2, sl_mid_t, dl_mid, dl_length, g, mfAppend, List.length_append, ca, cb, cc, cast2, tn, eP]
    rfl
theorem lp1_loop {base left right : List Str} (h3 : L3 base left right) {x4 x5 : Option Slot} (S : Sto) : ∀ (ts : List T3) (u : T3) (found : List (Pt Str)) (x3 x8 x9 x10 : Option Slot), found.length + 2 * ts.length ≤ 1000 →
    ∃ x3' x8' x9' x10', ∀ ds, forL (.nm 3) m__law_parts_0 (ts.map triD ++ ds) (envA base left right x4 x5 found u x3 x8 x9 x10) S = forL (.nm 3) m__law_parts_0 ds (envA base left right x4 x5 (found ++ pre base left right ts u) (lastU ts u) x3' x8' x9' x10') S
  | [], u, found, x3, x8, x9, x10, _ => ⟨x3, x8, x9, x10, fun _ => by rw [show pre base left right [] u = [] from rfl, List.append_nil]; rfl⟩
  | t :: ts, u, found, x3, x8, x9, x10, hf => by
    rw [List.length_cons] at hf
    have st := lp1_step h3 (x4 := x4) (x5 := x5) (x8 := x8) (x9 := x9) (x10 := x10) (found := found) (t := t) (u := u) (by omega) S
    have l1 : (pc base left right t u).length ≤ 1 := regs_len _ _ _
    obtain ⟨y3, y8, y9, y10, e⟩ := lp1_loop h3 (x4 := x4) (x5 := x5) S ts (nx t) (found ++ (pc base left right t u ++ [Pt.st base t.1])) _ _ _ _ (by
      rw [List.length_append, List.length_append, List.length_singleton]; omega)
    refine ⟨y3, y8, y9, y10, fun ds => ?_⟩
    rw [List.map_cons, List.cons_append, forL_step (show Tg.asg (.nm 3) (triD t) _ = some (envA base left right x4 x5 found u (some (Slot.val (triD t))) x8 x9 x10) from rfl) st, e, pre_cons, List.append_assoc]
    rfl
def envB (base left right : List Str) (x3 : Option Slot) (several : List (Pt Str)) (x5 x6 x7 x8 x9 x10 : Option Slot) : Env := [(some (Slot.val (.tup (dl base)))), (some (Slot.val (.tup (dl left)))), (some (Slot.val (.tup (dl right)))), x3, some (.own (ptsD several)), x5, x6, x7, x8, x9, x10]
theorem lp2_step {base left right : List Str} {x3 x6 x7 x8 x9 x10 : Option Slot} {f : List (Pt Str)} {p : Pt Str} (hf : f.length ≤ 1000) (hk : ∀ p ∈ f, PtOk p) (hm : ∀ p ∈ f, stl p ≤ 1000) (hp : stl p ≤ 1000) (S : Sto) :
    m__law_parts_1 (envB base left right x3 f (some (Slot.val (ptD p))) x6 x7 x8 x9 x10) S = .ok .next (envB base left right x3 (mstep f p) (some (Slot.val (ptD p))) x6 x7 x8 x9 x10) S := by
  have c1 := ptsD_len f
  have cm := (wf_pts hk).cmp
  have ca : (ptsD f).length + 1 ≤ 16777216 := by rw [c1]; omega
  have cb : (ptsD f).length ≤ 16777215 := by rw [c1]; omega
  have eP : ptsD (f ++ [p]) = ptsD f ++ [ptD p] := (ptsD_app _ _).symm
  cases p with
  | reg o m y =>
    have l0 : fIx [ptD (.reg o m y), .int 0] = some (.str "region") := rfl
    rw [mstep_r]
    simp only [m__law_parts_1, envB, Int.ofNat_lt, Int.ofNat_le, bind_ok, bind_exc, bind_stuck, sizeLine_eq, fMod_i, fFdiv_i, fMul_i, fMul_i1, fMul_i2, fm0, fm1, fAdd_i, fSub_i, fPow_i, fAdd_l, fAdd_t, fAdd_s, fLt_i, fLe_i, fGt_i, fGe_i, evO, resW, evR, bPrim, bC, bVar, tTru, tBool, tNotB, tAndB, tOrB, bAnd, bOr, bNot, bIf, wIf, evX, bTup, wLst, wPrim, wVal, eFrz, wCall, sOk, sRet, sSet, sIf, sSeq, sDrop, sPar, evW, setAll, Tg.asg, Tg.asgs, mMut, sPutL, bGet, sPutD, wDisp, ePub, bIxL, sPutS, mChk, mInt, D.isStr, D.isInt, D.tru, fLen_l, fLen_t, List.length_map, iVal, itemsD, iRange, plainS, wipeE, backE, wComp, wCompB, List.all_cons, List.all_nil, Slot.isVal, Bool.and_true, Bool.true_and, Bool.and_self, fsem, env0, fill, wMove, Slot.frz, List.getElem?_cons_zero, List.getElem?_cons_succ, List.set_cons_zero, List.set_cons_succ, List.map_cons, List.map_nil, List.cons_append, List.nil_append, List.reduceReplicate, Option.getD_some, List.length_cons, List.length_nil, List.getD_cons_zero, List.getD_cons_succ, Nat.reduceAdd, Nat.reduceSub, Option.map_some, if_true, if_false, ite_true, ite_false, Bool.false_eq_true, reduceIte, Nat.reduceLeDiff, Nat.reduceEqDiff, Int.reduceEq, Int.reduceNe, Int.reduceLT, Int.reduceLE, Int.reduceNeg, Int.reducePow, ne_eq, not_false_eq_true, decide_true, decide_false, true_and, and_true, true_or, or_true, and_self, Bool.not_true, Bool.not_false, reduceCtorEq, l0, reg_stay, mfAppend, List.length_append, ca, cb, eP]
  | stay b =>
    have l0 : fIx [ptD (.stay b), .int 0] = some (.str "stay") := rfl
    have l1 : fIx [ptD (.stay b), .int 1] = some (.tup (dl b)) := rfl
    rcases nil_or_snoc f with rfl | ⟨f', q, rfl⟩
    · have z : fNe [.lst (ptsD []), .lst []] = some (.bl false) := ne_nil cm
      rw [mstep_nil]
      simp only [m__law_parts_1, envB, Int.ofNat_lt, Int.ofNat_le, bind_ok, bind_exc, bind_stuck, sizeLine_eq, fMod_i, fFdiv_i, fMul_i, fMul_i1, fMul_i2, fm0, fm1, fAdd_i, fSub_i, fPow_i, fAdd_l, fAdd_t, fAdd_s, fLt_i, fLe_i, fGt_i, fGe_i, evO, resW, evR, bPrim, bC, bVar, tTru, tBool, tNotB, tAndB, tOrB, bAnd, bOr, bNot, bIf, wIf, evX, bTup, wLst, wPrim, wVal, eFrz, wCall, sOk, sRet, sSet, sIf, sSeq, sDrop, sPar, evW, setAll, Tg.asg, Tg.asgs, mMut, sPutL, bGet, sPutD, wDisp, ePub, bIxL, sPutS, mChk, mInt, D.isStr, D.isInt, D.tru, fLen_l, fLen_t, List.length_map, iVal, itemsD, iRange, plainS, wipeE, backE, wComp, wCompB, List.all_cons, List.all_nil, Slot.isVal, Bool.and_true, Bool.true_and, Bool.and_self, fsem, env0, fill, wMove, Slot.frz, List.getElem?_cons_zero, List.getElem?_cons_succ, List.set_cons_zero, List.set_cons_succ, List.map_cons, List.map_nil, List.cons_append, List.nil_append, List.reduceReplicate, Option.getD_some, List.length_cons, List.length_nil, List.getD_cons_zero, List.getD_cons_succ, Nat.reduceAdd, Nat.reduceSub, Option.map_some, if_true, if_false, ite_true, ite_false, Bool.false_eq_true, reduceIte, Nat.reduceLeDiff, Nat.reduceEqDiff, Int.reduceEq, Int.reduceNe, Int.reduceLT, Int.reduceLE, Int.reduceNeg, Int.reducePow, ne_eq, not_false_eq_true, decide_true, decide_false, true_and, and_true, true_or, or_true, and_self, Bool.not_true, Bool.not_false, reduceCtorEq, l0, stay_stay, z, mfAppend, List.length_append, ca, cb]
      rfl
    · have z : fNe [.lst (ptsD (f' ++ [q])), .lst []] = some (.bl true) := by rw [ne_nil cm]; simp [ptsD]
      have la : fIx [.lst (ptsD (f' ++ [q])), .int (-1)] = some (ptD q) := by rw [fIx_last, ← ptsD_app]; exact List.getLast?_concat
      cases q with
      | reg o m y =>
        have q0 : fIx [ptD (.reg o m y), .int 0] = some (.str "region") := rfl
        rw [mstep_reg]
        simp only [m__law_parts_1, envB, Int.ofNat_lt, Int.ofNat_le, bind_ok, bind_exc, bind_stuck, sizeLine_eq, fMod_i, fFdiv_i, fMul_i, fMul_i1, fMul_i2, fm0, fm1, fAdd_i, fSub_i, fPow_i, fAdd_l, fAdd_t, fAdd_s, fLt_i, fLe_i, fGt_i, fGe_i, evO, resW, evR, bPrim, bC, bVar, tTru, tBool, tNotB, tAndB, tOrB, bAnd, bOr, bNot, bIf, wIf, evX, bTup, wLst, wPrim, wVal, eFrz, wCall, sOk, sRet, sSet, sIf, sSeq, sDrop, sPar, evW, setAll, Tg.asg, Tg.asgs, mMut, sPutL, bGet, sPutD, wDisp, ePub, bIxL, sPutS, mChk, mInt, D.isStr, D.isInt, D.tru, fLen_l, fLen_t, List.length_map, iVal, itemsD, iRange, plainS, wipeE, backE, wComp, wCompB, List.all_cons, List.all_nil, Slot.isVal, Bool.and_true, Bool.true_and, Bool.and_self, fsem, env0, fill, wMove, Slot.frz, List.getElem?_cons_zero, List.getElem?_cons_succ, List.set_cons_zero, List.set_cons_succ, List.map_cons, List.map_nil, List.cons_append, List.nil_append, List.reduceReplicate, Option.getD_some, List.length_cons, List.length_nil, List.getD_cons_zero, List.getD_cons_succ, Nat.reduceAdd, Nat.reduceSub, Option.map_some, if_true, if_false, ite_true, ite_false, Bool.false_eq_true, reduceIte, Nat.reduceLeDiff, Nat.reduceEqDiff, Int.reduceEq, Int.reduceNe, Int.reduceLT, Int.reduceLE, Int.reduceNeg, Int.reducePow, ne_eq, not_false_eq_true, decide_true, decide_false, true_and, and_true, true_or, or_true, and_self, Bool.not_true, Bool.not_false, reduceCtorEq, l0, stay_stay, z, negF_1, la, q0, reg_stay, mfAppend, List.length_append, ca, cb, eP]
      | stay a =>
        have q0 : fIx [ptD (.stay a), .int 0] = some (.str "stay") := rfl
        have q1 : fIx [ptD (.stay a), .int 1] = some (.tup (dl a)) := rfl
        have ix : ixN (ptsD (f' ++ [Pt.stay a])).length (-1) = some f'.length := by rw [ixN_last (by rw [c1]; simp), c1]; simp
        have ha : fAdd [.tup (dl a), .tup (dl b)] = some (.tup (dl (a ++ b))) := by
          have := hm _ (List.mem_append_right f' (List.mem_singleton.mpr rfl))
          simp [stl] at this hp
          rw [fAdd_t _ _ (by rw [dl_length, dl_length]; omega), dl_app]
        have st : (ptsD (f' ++ [Pt.stay a])).set f'.length (.tup [.str "stay", .tup (dl (a ++ b))]) = ptsD (f' ++ [Pt.stay (a ++ b)]) := by
          rw [← ptsD_app, ← ptsD_app]
          exact set_last _ _ _ _ (ptsD_len _).symm
        rw [mstep_stay]
        simp only [m__law_parts_1, envB, Int.ofNat_lt, Int.ofNat_le, bind_ok, bind_exc, bind_stuck, sizeLine_eq, fMod_i, fFdiv_i, fMul_i, fMul_i1, fMul_i2, fm0, fm1, fAdd_i, fSub_i, fPow_i, fAdd_l, fAdd_t, fAdd_s, fLt_i, fLe_i, fGt_i, fGe_i, evO, resW, evR, bPrim, bC, bVar, tTru, tBool, tNotB, tAndB, tOrB, bAnd, bOr, bNot, bIf, wIf, evX, bTup, wLst, wPrim, wVal, eFrz, wCall, sOk, sRet, sSet, sIf, sSeq, sDrop, sPar, evW, setAll, Tg.asg, Tg.asgs, mMut, sPutL, bGet, sPutD, wDisp, ePub, bIxL, sPutS, mChk, mInt, D.isStr, D.isInt, D.tru, fLen_l, fLen_t, List.length_map, iVal, itemsD, iRange, plainS, wipeE, backE, wComp, wCompB, List.all_cons, List.all_nil, Slot.isVal, Bool.and_true, Bool.true_and, Bool.and_self, fsem, env0, fill, wMove, Slot.frz, List.getElem?_cons_zero, List.getElem?_cons_succ, List.set_cons_zero, List.set_cons_succ, List.map_cons, List.map_nil, List.cons_append, List.nil_append, List.reduceReplicate, Option.getD_some, List.length_cons, List.length_nil, List.getD_cons_zero, List.getD_cons_succ, Nat.reduceAdd, Nat.reduceSub, Option.map_some, if_true, if_false, ite_true, ite_false, Bool.false_eq_true, reduceIte, Nat.reduceLeDiff, Nat.reduceEqDiff, Int.reduceEq, Int.reduceNe, Int.reduceLT, Int.reduceLE, Int.reduceNeg, Int.reducePow, ne_eq, not_false_eq_true, decide_true, decide_false, true_and, and_true, true_or, or_true, and_self, Bool.not_true, Bool.not_false, reduceCtorEq, l0, l1, stay_stay, z, negF_1, la, q0, q1, ix, ha, st]
theorem lp2_loop {base left right : List Str} {x3 x6 x7 x8 x9 x10 : Option Slot} (S : Sto) : ∀ (ps f : List (Pt Str)) (x5 : Option Slot), f.length + ps.length ≤ 1000 → (∀ p ∈ f, PtOk p) → (∀ p ∈ ps, PtOk p) → (∀ p ∈ f, stl p + ps.length ≤ 1000) → (∀ p ∈ ps, stl p ≤ 1) →
    ∃ x5', forL (.nm 5) m__law_parts_1 (ptsD ps) (envB base left right x3 f x5 x6 x7 x8 x9 x10) S = .ok .next (envB base left right x3 (ps.foldl mstep f) x5' x6 x7 x8 x9 x10) S
  | [], f, x5, _, _, _, _, _ => ⟨x5, rfl⟩
  | p :: ps, f, x5, hf, hk, hp, hm, hs => by
    rw [List.length_cons] at hf hm
    have st := lp2_step (base := base) (left := left) (right := right) (x3 := x3) (x6 := x6) (x7 := x7) (x8 := x8) (x9 := x9) (x10 := x10) (f := f) (p := p) (by omega) hk (fun q hq => by have := hm q hq; omega) (by have := hs p List.mem_cons_self; omega) S
    obtain ⟨y5, e⟩ := lp2_loop (base := base) (left := left) (right := right) (x3 := x3) (x6 := x6) (x7 := x7) (x8 := x8) (x9 := x9) (x10 := x10) S ps (mstep f p) (some (Slot.val (ptD p))) (by have := mstep_len f p; omega) (mstep_ok hk (hp p List.mem_cons_self)) (fun q hq => hp q (List.mem_cons_of_mem _ hq)) (fun q hq => by
      have := mstep_stl (n := 1000 - (ps.length + 1)) (k := 1) (fun q hq => by have := hm q hq; omega) (hs p List.mem_cons_self) q hq
      omega) (fun q hq => hs q (List.mem_cons_of_mem _ hq))
    refine ⟨y5, ?_⟩
    show forL (.nm 5) m__law_parts_1 (ptD p :: ptsD ps) _ S = _
    rw [forL_step (show Tg.asg (.nm 5) (ptD p) _ = some (envB base left right x3 f (some (Slot.val (ptD p))) x6 x7 x8 x9 x10) from rfl) st, e]
    rfl
theorem law_parts_ok {base left right : List Str} (h : L3 base left right) (S : Sto) : F__law_parts [.tup (dl base), .tup (dl left), .tup (dl right)] S = .ok (.own (ptsD (PS base left right))) [] S := by
  have hb := h.b
  have s1 := law_stays_ok h S
  have tl := T_len (base := base) (left := left) (right := right)
  have pl := pre_len base left right (T base left right) (0, 0, 0)
  obtain ⟨x3, x8, x9, x10, l1⟩ := lp1_loop h (x4 := none) (x5 := none) S (T base left right) (0, 0, 0) [] none none none none (by simp; omega)
  rw [List.nil_append] at l1
  have l2 := lp1_step h (x4 := none) (x5 := none) (x8 := x8) (x9 := x9) (x10 := x10) (found := pre base left right (T base left right) (0, 0, 0)) (t := ends base left right) (u := lastU (T base left right) (0, 0, 0)) (by omega) S
  have lf : forL (.nm 3) m__law_parts_0 ((T base left right).map triD ++ [.tup [.int (base.length : Nat), .int (left.length : Nat), .int (right.length : Nat)]]) [(some (Slot.val (.tup (dl base)))), (some (Slot.val (.tup (dl left)))), (some (Slot.val (.tup (dl right)))), none, none, none, some (.own []), (some (Slot.val (.tup [.int 0, .int 0, .int 0]))), none, none, none] S = _ :=
    (l1 _).trans ((forL_step (show Tg.asg (.nm 3) (triD (ends base left right)) _ = some _ from rfl) l2 []).trans rfl)
  have ap : fAdd [.lst ((T base left right).map triD), .lst [.tup [.int (base.length : Nat), .int (left.length : Nat), .int (right.length : Nat)]]] = some (.lst ((T base left right).map triD ++ [.tup [.int (base.length : Nat), .int (left.length : Nat), .int (right.length : Nat)]])) := fAdd_l _ _ (by simp; omega)
  have dr : (ptsD (pre base left right (T base left right) (0, 0, 0) ++ (pc base left right (ends base left right) (lastU (T base left right) (0, 0, 0)) ++ [Pt.st base (ends base left right).1]))).dropLast = ptsD (pcs base left right (T base left right) (0, 0, 0)) := by
    rw [pcs_pre, ← List.append_assoc, ← ptsD_app]
    exact List.dropLast_concat
  have pcl : (pcs base left right (T base left right) (0, 0, 0)).length ≤ 1000 := by
    have := pcs_len (base := base) (left := left) (right := right) (T base left right) (0, 0, 0)
    omega
  have pok : ∀ p ∈ pcs base left right (T base left right) (0, 0, 0), PtOk p ∧ stl p ≤ 1 := fun p hp => by
    rw [pcs_pre] at hp
    rcases List.mem_append.mp hp with hp | hp
    · exact ⟨pre_ok h _ _ p hp, pre_stl _ _ p hp⟩
    · refine ⟨pc_ok h _ _ p hp, ?_⟩
      unfold pc regs at hp
      split at hp
      · cases hp
      · rw [List.mem_singleton] at hp; subst hp; exact Nat.zero_le _
  simp only [F__law_parts, m__law_parts, Int.ofNat_lt, Int.ofNat_le, bind_ok, bind_exc, bind_stuck, sizeLine_eq, fMod_i, fFdiv_i, fMul_i, fMul_i1, fMul_i2, fm0, fm1, fAdd_i, fSub_i, fPow_i, fAdd_l, fAdd_t, fAdd_s, fLt_i, fLe_i, fGt_i, fGe_i, evO, resW, evR, bPrim, bC, bVar, tTru, tBool, tNotB, tAndB, tOrB, bAnd, bOr, bNot, bIf, wIf, evX, bTup, wLst, wPrim, wVal, eFrz, wCall, sOk, sRet, sSet, sIf, sSeq, sDrop, sPar, evW, setAll, Tg.asg, Tg.asgs, mMut, sPutL, bGet, sPutD, wDisp, ePub, bIxL, sPutS, mChk, mInt, D.isStr, D.isInt, D.tru, fLen_l, fLen_t, List.length_map, iVal, itemsD, iRange, plainS, wipeE, backE, wComp, wCompB, List.all_cons, List.all_nil, Slot.isVal, Bool.and_true, Bool.true_and, Bool.and_self, fsem, env0, fill, wMove, Slot.frz, List.getElem?_cons_zero, List.getElem?_cons_succ, List.set_cons_zero, List.set_cons_succ, List.map_cons, List.map_nil, List.cons_append, List.nil_append, List.reduceReplicate, Option.getD_some, List.length_cons, List.length_nil, List.getD_cons_zero, List.getD_cons_succ, Nat.reduceAdd, Nat.reduceSub, Option.map_some, if_true, if_false, ite_true, ite_false, Bool.false_eq_true, reduceIte, Nat.reduceLeDiff, Nat.reduceEqDiff, Int.reduceEq, Int.reduceNe, Int.reduceLT, Int.reduceLE, Int.reduceNeg, Int.reducePow, ne_eq, not_false_eq_true, decide_true, decide_false, true_and, and_true, true_or, or_true, and_self, Bool.not_true, Bool.not_false, reduceCtorEq, s1, sFor, dl_length, ap]
  rw [lf]
  obtain ⟨x5, l3⟩ := lp2_loop (base := base) (left := left) (right := right) (x3 := (some (Slot.val (triD (ends base left right))))) (x6 := some (.own (ptsD (pre base left right (T base left right) (0, 0, 0) ++ (pc base left right (ends base left right) (lastU (T base left right) (0, 0, 0)) ++ [Pt.st base (ends base left right).1]))))) (x7 := (some (Slot.val (triD (nx (ends base left right)))))) (x8 := (some (Slot.val (.tup (dl (mid right (lastU (T base left right) (0, 0, 0)).2.2 (ends base left right).2.2)))))) (x9 := (some (Slot.val (.tup (dl (mid base (lastU (T base left right) (0, 0, 0)).1 (ends base left right).1)))))) (x10 := (some (Slot.val (.tup (dl (mid left (lastU (T base left right) (0, 0, 0)).2.1 (ends base left right).2.1)))))) S (pcs base left right (T base left right) (0, 0, 0)) [] none (by simpa using pcl) (fun q hq => by cases hq) (fun q hq => (pok q hq).1) (fun q hq => by cases hq) (fun q hq => (pok q hq).2)
  simp only [forL, envA, Int.ofNat_lt, Int.ofNat_le, bind_ok, bind_exc, bind_stuck, sizeLine_eq, fMod_i, fFdiv_i, fMul_i, fMul_i1, fMul_i2, fm0, fm1, fAdd_i, fSub_i, fPow_i, fAdd_l, fAdd_t, fAdd_s, fLt_i, fLe_i, fGt_i, fGe_i, evO, resW, evR, bPrim, bC, bVar, tTru, tBool, tNotB, tAndB, tOrB, bAnd, bOr, bNot, bIf, wIf, evX, bTup, wLst, wPrim, wVal, eFrz, wCall, sOk, sRet, sSet, sIf, sSeq, sDrop, sPar, evW, setAll, Tg.asg, Tg.asgs, mMut, sPutL, bGet, sPutD, wDisp, ePub, bIxL, sPutS, mChk, mInt, D.isStr, D.isInt, D.tru, fLen_l, fLen_t, List.length_map, iVal, itemsD, iRange, plainS, wipeE, backE, wComp, wCompB, List.all_cons, List.all_nil, Slot.isVal, Bool.and_true, Bool.true_and, Bool.and_self, fsem, env0, fill, wMove, Slot.frz, List.getElem?_cons_zero, List.getElem?_cons_succ, List.set_cons_zero, List.set_cons_succ, List.map_cons, List.map_nil, List.cons_append, List.nil_append, List.reduceReplicate, Option.getD_some, List.length_cons, List.length_nil, List.getD_cons_zero, List.getD_cons_succ, Nat.reduceAdd, Nat.reduceSub, Option.map_some, if_true, if_false, ite_true, ite_false, Bool.false_eq_true, reduceIte, Nat.reduceLeDiff, Nat.reduceEqDiff, Int.reduceEq, Int.reduceNe, Int.reduceLT, Int.reduceLE, Int.reduceNeg, Int.reducePow, ne_eq, not_false_eq_true, decide_true, decide_false, true_and, and_true, true_or, or_true, and_self, Bool.not_true, Bool.not_false, reduceCtorEq, cut_init, dr, negF_1]
  unfold envB at l3
  rw [show ptsD [] = [] from rfl] at l3
  rw [l3]
  rfl

/-! ### sides, clashes -/
theorem need3_ok {xs : List Str} (h1 : xs.length ≤ 20) (h2 : TxOk xs) (S : Sto) : F_need_lines [.tup (dl xs)] S = .ok (.val .non) [] S := need_ok ⟨by omega, h2⟩ S
theorem parts_of_ok {base left right : List Str} (h : L3 base left right) (S : Sto) : ∃ X, F_parts_of [.tup (dl base), .tup (dl left), .tup (dl right)] S = .ok (.own (ptsD (PS base left right))) [] (S ++ X) := by
  obtain ⟨X, hx⟩ := parts_by_ok h S
  refine ⟨X, ?_⟩
  have n1 := need3_ok h.b h.ob S
  have n2 := need3_ok h.l h.ol S
  have n3 := need3_ok h.r h.or S
  simp only [F_parts_of, m_parts_of, m_parts_of_0, Int.ofNat_lt, Int.ofNat_le, bind_ok, bind_exc, bind_stuck, sizeLine_eq, fMod_i, fFdiv_i, fMul_i, fMul_i1, fMul_i2, fm0, fm1, fAdd_i, fSub_i, fPow_i, fAdd_l, fAdd_t, fAdd_s, fLt_i, fLe_i, fGt_i, fGe_i, evO, resW, evR, bPrim, bC, bVar, tTru, tBool, tNotB, tAndB, tOrB, bAnd, bOr, bNot, bIf, wIf, evX, bTup, wLst, wPrim, wVal, eFrz, wCall, sOk, sRet, sSet, sIf, sSeq, sDrop, sPar, evW, setAll, Tg.asg, Tg.asgs, mMut, sPutL, bGet, sPutD, wDisp, ePub, bIxL, sPutS, mChk, mInt, D.isStr, D.isInt, D.tru, fLen_l, fLen_t, List.length_map, iVal, itemsD, iRange, plainS, wipeE, backE, wComp, wCompB, List.all_cons, List.all_nil, Slot.isVal, Bool.and_true, Bool.true_and, Bool.and_self, fsem, env0, fill, wMove, Slot.frz, List.getElem?_cons_zero, List.getElem?_cons_succ, List.set_cons_zero, List.set_cons_succ, List.map_cons, List.map_nil, List.cons_append, List.nil_append, List.reduceReplicate, Option.getD_some, List.length_cons, List.length_nil, List.getD_cons_zero, List.getD_cons_succ, Nat.reduceAdd, Nat.reduceSub, Option.map_some, if_true, if_false, ite_true, ite_false, Bool.false_eq_true, reduceIte, Nat.reduceLeDiff, Nat.reduceEqDiff, Int.reduceEq, Int.reduceNe, Int.reduceLT, Int.reduceLE, Int.reduceNeg, Int.reducePow, ne_eq, not_false_eq_true, decide_true, decide_false, true_and, and_true, true_or, or_true, and_self, Bool.not_true, Bool.not_false, reduceCtorEq, sFor, forL, n1, n2, n3, hx]
def proj (k : Nat) : Pt Str → List Str := match k with
  | 1 => Pt.one
  | 2 => Pt.two
  | _ => Pt.three
theorem proj_stay (k : Nat) (xs : List Str) : proj k (.stay xs) = xs := by
  unfold proj
  split <;> rfl
theorem proj_reg {k : Nat} (h : 1 ≤ k ∧ k ≤ 3) (o m y : List Str) : fIx [ptD (.reg o m y), .int (k : Nat)] = some (.tup (dl (proj k (.reg o m y)))) := by
  have : k = 1 ∨ k = 2 ∨ k = 3 := by omega
  rcases this with rfl | rfl | rfl <;> rfl
theorem side_loop {k : Nat} (hk : 1 ≤ k ∧ k ≤ 3) (x0 : Option Slot) (S : Sto) : ∀ (ps : List (Pt Str)) (acc : List Str) (x3 : Option Slot), acc.length + (ps.flatMap (proj k)).length ≤ 1000 →
    ∃ x3', forL (.nm 3) m__law_side_0 (ptsD ps) [x0, (some (Slot.val (.int (k : Nat)))), (some (Slot.val (.tup (dl acc)))), x3] S = .ok .next [x0, (some (Slot.val (.int (k : Nat)))), (some (Slot.val (.tup (dl (acc ++ ps.flatMap (proj k)))))), x3'] S
  | [], acc, x3, _ => ⟨x3, by rw [List.flatMap_nil, List.append_nil]; rfl⟩
  | p :: ps, acc, x3, h => by
    rw [List.flatMap_cons, List.length_append] at h
    have ha : fAdd [.tup (dl acc), .tup (dl (proj k p))] = some (.tup (dl (acc ++ proj k p))) := by rw [fAdd_t _ _ (by rw [dl_length, dl_length]; omega), dl_app]
    obtain ⟨y3, e⟩ := side_loop hk x0 S ps (acc ++ proj k p) (some (Slot.val (ptD p))) (by rw [List.length_append]; omega)
    refine ⟨y3, ?_⟩
    show forL (.nm 3) m__law_side_0 (ptD p :: ptsD ps) _ S = _
    have st : m__law_side_0 [x0, (some (Slot.val (.int (k : Nat)))), (some (Slot.val (.tup (dl acc)))), (some (Slot.val (ptD p)))] S = .ok .next [x0, (some (Slot.val (.int (k : Nat)))), (some (Slot.val (.tup (dl (acc ++ proj k p))))), (some (Slot.val (ptD p)))] S := by
      cases p with
      | reg o m y =>
        have l0 : fIx [ptD (.reg o m y), .int 0] = some (.str "region") := rfl
        simp only [m__law_side_0, Int.ofNat_lt, Int.ofNat_le, bind_ok, bind_exc, bind_stuck, sizeLine_eq, fMod_i, fFdiv_i, fMul_i, fMul_i1, fMul_i2, fm0, fm1, fAdd_i, fSub_i, fPow_i, fAdd_l, fAdd_t, fAdd_s, fLt_i, fLe_i, fGt_i, fGe_i, evO, resW, evR, bPrim, bC, bVar, tTru, tBool, tNotB, tAndB, tOrB, bAnd, bOr, bNot, bIf, wIf, evX, bTup, wLst, wPrim, wVal, eFrz, wCall, sOk, sRet, sSet, sIf, sSeq, sDrop, sPar, evW, setAll, Tg.asg, Tg.asgs, mMut, sPutL, bGet, sPutD, wDisp, ePub, bIxL, sPutS, mChk, mInt, D.isStr, D.isInt, D.tru, fLen_l, fLen_t, List.length_map, iVal, itemsD, iRange, plainS, wipeE, backE, wComp, wCompB, List.all_cons, List.all_nil, Slot.isVal, Bool.and_true, Bool.true_and, Bool.and_self, fsem, env0, fill, wMove, Slot.frz, List.getElem?_cons_zero, List.getElem?_cons_succ, List.set_cons_zero, List.set_cons_succ, List.map_cons, List.map_nil, List.cons_append, List.nil_append, List.reduceReplicate, Option.getD_some, List.length_cons, List.length_nil, List.getD_cons_zero, List.getD_cons_succ, Nat.reduceAdd, Nat.reduceSub, Option.map_some, if_true, if_false, ite_true, ite_false, Bool.false_eq_true, reduceIte, Nat.reduceLeDiff, Nat.reduceEqDiff, Int.reduceEq, Int.reduceNe, Int.reduceLT, Int.reduceLE, Int.reduceNeg, Int.reducePow, ne_eq, not_false_eq_true, decide_true, decide_false, true_and, and_true, true_or, or_true, and_self, Bool.not_true, Bool.not_false, reduceCtorEq, l0, reg_stay, proj_reg hk, ha]
      | stay b =>
        have l0 : fIx [ptD (.stay b), .int 0] = some (.str "stay") := rfl
        have l1 : fIx [ptD (.stay b), .int 1] = some (.tup (dl b)) := rfl
        rw [proj_stay] at ha ⊢
        simp only [m__law_side_0, Int.ofNat_lt, Int.ofNat_le, bind_ok, bind_exc, bind_stuck, sizeLine_eq, fMod_i, fFdiv_i, fMul_i, fMul_i1, fMul_i2, fm0, fm1, fAdd_i, fSub_i, fPow_i, fAdd_l, fAdd_t, fAdd_s, fLt_i, fLe_i, fGt_i, fGe_i, evO, resW, evR, bPrim, bC, bVar, tTru, tBool, tNotB, tAndB, tOrB, bAnd, bOr, bNot, bIf, wIf, evX, bTup, wLst, wPrim, wVal, eFrz, wCall, sOk, sRet, sSet, sIf, sSeq, sDrop, sPar, evW, setAll, Tg.asg, Tg.asgs, mMut, sPutL, bGet, sPutD, wDisp, ePub, bIxL, sPutS, mChk, mInt, D.isStr, D.isInt, D.tru, fLen_l, fLen_t, List.length_map, iVal, itemsD, iRange, plainS, wipeE, backE, wComp, wCompB, List.all_cons, List.all_nil, Slot.isVal, Bool.and_true, Bool.true_and, Bool.and_self, fsem, env0, fill, wMove, Slot.frz, List.getElem?_cons_zero, List.getElem?_cons_succ, List.set_cons_zero, List.set_cons_succ, List.map_cons, List.map_nil, List.cons_append, List.nil_append, List.reduceReplicate, Option.getD_some, List.length_cons, List.length_nil, List.getD_cons_zero, List.getD_cons_succ, Nat.reduceAdd, Nat.reduceSub, Option.map_some, if_true, if_false, ite_true, ite_false, Bool.false_eq_true, reduceIte, Nat.reduceLeDiff, Nat.reduceEqDiff, Int.reduceEq, Int.reduceNe, Int.reduceLT, Int.reduceLE, Int.reduceNeg, Int.reducePow, ne_eq, not_false_eq_true, decide_true, decide_false, true_and, and_true, true_or, or_true, and_self, Bool.not_true, Bool.not_false, reduceCtorEq, l0, l1, stay_stay, ha]
    rw [forL_step (show Tg.asg (.nm 3) (ptD p) _ = some [x0, (some (Slot.val (.int (k : Nat)))), (some (Slot.val (.tup (dl acc)))), (some (Slot.val (ptD p)))] from rfl) st, e, List.flatMap_cons, List.append_assoc]
theorem side_ok {k : Nat} (hk : 1 ≤ k ∧ k ≤ 3) {ps : List (Pt Str)} (h : (ps.flatMap (proj k)).length ≤ 1000) (S : Sto) : F__law_side [.lst (ptsD ps), .int (k : Nat)] S = .ok (.val (.tup (dl (ps.flatMap (proj k))))) [] S := by
  obtain ⟨x3, e⟩ := side_loop hk (some (Slot.val (.lst (ptsD ps)))) S ps [] none (by simpa using h)
  rw [List.nil_append] at e
  simp only [F__law_side, m__law_side, Int.ofNat_lt, Int.ofNat_le, bind_ok, bind_exc, bind_stuck, sizeLine_eq, fMod_i, fFdiv_i, fMul_i, fMul_i1, fMul_i2, fm0, fm1, fAdd_i, fSub_i, fPow_i, fAdd_l, fAdd_t, fAdd_s, fLt_i, fLe_i, fGt_i, fGe_i, evO, resW, evR, bPrim, bC, bVar, tTru, tBool, tNotB, tAndB, tOrB, bAnd, bOr, bNot, bIf, wIf, evX, bTup, wLst, wPrim, wVal, eFrz, wCall, sOk, sRet, sSet, sIf, sSeq, sDrop, sPar, evW, setAll, Tg.asg, Tg.asgs, mMut, sPutL, bGet, sPutD, wDisp, ePub, bIxL, sPutS, mChk, mInt, D.isStr, D.isInt, D.tru, fLen_l, fLen_t, List.length_map, iVal, itemsD, iRange, plainS, wipeE, backE, wComp, wCompB, List.all_cons, List.all_nil, Slot.isVal, Bool.and_true, Bool.true_and, Bool.and_self, fsem, env0, fill, wMove, Slot.frz, List.getElem?_cons_zero, List.getElem?_cons_succ, List.set_cons_zero, List.set_cons_succ, List.map_cons, List.map_nil, List.cons_append, List.nil_append, List.reduceReplicate, Option.getD_some, List.length_cons, List.length_nil, List.getD_cons_zero, List.getD_cons_succ, Nat.reduceAdd, Nat.reduceSub, Option.map_some, if_true, if_false, ite_true, ite_false, Bool.false_eq_true, reduceIte, Nat.reduceLeDiff, Nat.reduceEqDiff, Int.reduceEq, Int.reduceNe, Int.reduceLT, Int.reduceLE, Int.reduceNeg, Int.reducePow, ne_eq, not_false_eq_true, decide_true, decide_false, true_and, and_true, true_or, or_true, and_self, Bool.not_true, Bool.not_false, reduceCtorEq, sFor]
  rw [show ([] : List D) = dl [] from rfl, e]
  rfl
theorem ne_tx {a b : List Str} (h1 : TxOk a) (h2 : TxOk b) : fNe [.tup (dl a), .tup (dl b)] = some (.bl (!decide (a = b))) := by
  have i : Decidable (D.tup (dl a) = D.tup (dl b)) := Classical.propDecidable _
  rw [ne_cmp (wf_lines h1).cmp (wf_lines h2).cmp]
  congr 3
  exact decide_eq_decide.mpr (by rw [D.tup.injEq, dl_inj])
theorem eq_tx {a b : List Str} (h1 : TxOk a) (h2 : TxOk b) : fEq [.tup (dl a), .tup (dl b)] = some (.bl (decide (a = b))) := by
  have i : Decidable (D.tup (dl a) = D.tup (dl b)) := Classical.propDecidable _
  rw [eq_cmp (wf_lines h1).cmp (wf_lines h2).cmp]
  congr 2
  exact decide_eq_decide.mpr (by rw [D.tup.injEq, dl_inj])
/-- what comes of a part -/
def come : Pt Str → Option (List Str)
  | .stay xs => some xs
  | .reg o m y => if m = o then some y else if y = o ∨ m = y then some m else none
def oD : Option (List Str) → D
  | some xs => .tup (dl xs)
  | none => .non
theorem comes_of_ok {p : Pt Str} (h : PtOk p) (S : Sto) : F_comes_of [ptD p] S = .ok (.val (oD (come p))) [] S := by
  cases p with
  | stay xs =>
    simp only [F_comes_of, m_comes_of, sStar, ptD, Int.ofNat_lt, Int.ofNat_le, bind_ok, bind_exc, bind_stuck, sizeLine_eq, fMod_i, fFdiv_i, fMul_i, fMul_i1, fMul_i2, fm0, fm1, fAdd_i, fSub_i, fPow_i, fAdd_l, fAdd_t, fAdd_s, fLt_i, fLe_i, fGt_i, fGe_i, evO, resW, evR, bPrim, bC, bVar, tTru, tBool, tNotB, tAndB, tOrB, bAnd, bOr, bNot, bIf, wIf, evX, bTup, wLst, wPrim, wVal, eFrz, wCall, sOk, sRet, sSet, sIf, sSeq, sDrop, sPar, evW, setAll, Tg.asg, Tg.asgs, mMut, sPutL, bGet, sPutD, wDisp, ePub, bIxL, sPutS, mChk, mInt, D.isStr, D.isInt, D.tru, fLen_l, fLen_t, List.length_map, iVal, itemsD, iRange, plainS, wipeE, backE, wComp, wCompB, List.all_cons, List.all_nil, Slot.isVal, Bool.and_true, Bool.true_and, Bool.and_self, fsem, env0, fill, wMove, Slot.frz, List.getElem?_cons_zero, List.getElem?_cons_succ, List.set_cons_zero, List.set_cons_succ, List.map_cons, List.map_nil, List.cons_append, List.nil_append, List.reduceReplicate, Option.getD_some, List.length_cons, List.length_nil, List.getD_cons_zero, List.getD_cons_succ, Nat.reduceAdd, Nat.reduceSub, Option.map_some, if_true, if_false, ite_true, ite_false, Bool.false_eq_true, reduceIte, Nat.reduceLeDiff, Nat.reduceEqDiff, Int.reduceEq, Int.reduceNe, Int.reduceLT, Int.reduceLE, Int.reduceNeg, Int.reducePow, ne_eq, not_false_eq_true, decide_true, decide_false, true_and, and_true, true_or, or_true, and_self, Bool.not_true, Bool.not_false, reduceCtorEq, List.take_succ_cons, List.take_zero, List.drop_succ_cons, List.drop_zero, stay_stay, Nat.le_refl]
    rfl
  | reg o m y =>
    have e1 := eq_tx h.2.1 h.1
    have e2 := eq_tx h.2.2 h.1
    have e3 := eq_tx h.2.1 h.2.2
    rw [show come (.reg o m y) = if m = o then some y else if y = o ∨ m = y then some m else none from rfl]
    by_cases q1 : m = o
    · rw [decide_eq_true q1] at e1
      rw [if_pos q1]
      simp only [F_comes_of, m_comes_of, sStar, sLst, ptD, Int.ofNat_lt, Int.ofNat_le, bind_ok, bind_exc, bind_stuck, sizeLine_eq, fMod_i, fFdiv_i, fMul_i, fMul_i1, fMul_i2, fm0, fm1, fAdd_i, fSub_i, fPow_i, fAdd_l, fAdd_t, fAdd_s, fLt_i, fLe_i, fGt_i, fGe_i, evO, resW, evR, bPrim, bC, bVar, tTru, tBool, tNotB, tAndB, tOrB, bAnd, bOr, bNot, bIf, wIf, evX, bTup, wLst, wPrim, wVal, eFrz, wCall, sOk, sRet, sSet, sIf, sSeq, sDrop, sPar, evW, setAll, Tg.asg, Tg.asgs, mMut, sPutL, bGet, sPutD, wDisp, ePub, bIxL, sPutS, mChk, mInt, D.isStr, D.isInt, D.tru, fLen_l, fLen_t, List.length_map, iVal, itemsD, iRange, plainS, wipeE, backE, wComp, wCompB, List.all_cons, List.all_nil, Slot.isVal, Bool.and_true, Bool.true_and, Bool.and_self, fsem, env0, fill, wMove, Slot.frz, List.getElem?_cons_zero, List.getElem?_cons_succ, List.set_cons_zero, List.set_cons_succ, List.map_cons, List.map_nil, List.cons_append, List.nil_append, List.reduceReplicate, Option.getD_some, List.length_cons, List.length_nil, List.getD_cons_zero, List.getD_cons_succ, Nat.reduceAdd, Nat.reduceSub, Option.map_some, if_true, if_false, ite_true, ite_false, Bool.false_eq_true, reduceIte, Nat.reduceLeDiff, Nat.reduceEqDiff, Int.reduceEq, Int.reduceNe, Int.reduceLT, Int.reduceLE, Int.reduceNeg, Int.reducePow, ne_eq, not_false_eq_true, decide_true, decide_false, true_and, and_true, true_or, or_true, and_self, Bool.not_true, Bool.not_false, reduceCtorEq, List.take_succ_cons, List.take_zero, List.drop_succ_cons, List.drop_zero, reg_stay, e1]
      rfl
    · rw [decide_eq_false q1] at e1
      rw [if_neg q1]
      by_cases q2 : y = o
      · rw [decide_eq_true q2] at e2
        rw [if_pos (.inl q2)]
        simp only [F_comes_of, m_comes_of, sStar, sLst, ptD, Int.ofNat_lt, Int.ofNat_le, bind_ok, bind_exc, bind_stuck, sizeLine_eq, fMod_i, fFdiv_i, fMul_i, fMul_i1, fMul_i2, fm0, fm1, fAdd_i, fSub_i, fPow_i, fAdd_l, fAdd_t, fAdd_s, fLt_i, fLe_i, fGt_i, fGe_i, evO, resW, evR, bPrim, bC, bVar, tTru, tBool, tNotB, tAndB, tOrB, bAnd, bOr, bNot, bIf, wIf, evX, bTup, wLst, wPrim, wVal, eFrz, wCall, sOk, sRet, sSet, sIf, sSeq, sDrop, sPar, evW, setAll, Tg.asg, Tg.asgs, mMut, sPutL, bGet, sPutD, wDisp, ePub, bIxL, sPutS, mChk, mInt, D.isStr, D.isInt, D.tru, fLen_l, fLen_t, List.length_map, iVal, itemsD, iRange, plainS, wipeE, backE, wComp, wCompB, List.all_cons, List.all_nil, Slot.isVal, Bool.and_true, Bool.true_and, Bool.and_self, fsem, env0, fill, wMove, Slot.frz, List.getElem?_cons_zero, List.getElem?_cons_succ, List.set_cons_zero, List.set_cons_succ, List.map_cons, List.map_nil, List.cons_append, List.nil_append, List.reduceReplicate, Option.getD_some, List.length_cons, List.length_nil, List.getD_cons_zero, List.getD_cons_succ, Nat.reduceAdd, Nat.reduceSub, Option.map_some, if_true, if_false, ite_true, ite_false, Bool.false_eq_true, reduceIte, Nat.reduceLeDiff, Nat.reduceEqDiff, Int.reduceEq, Int.reduceNe, Int.reduceLT, Int.reduceLE, Int.reduceNeg, Int.reducePow, ne_eq, not_false_eq_true, decide_true, decide_false, true_and, and_true, true_or, or_true, and_self, Bool.not_true, Bool.not_false, reduceCtorEq, List.take_succ_cons, List.take_zero, List.drop_succ_cons, List.drop_zero, reg_stay, e1, e2]
        rfl
      · rw [decide_eq_false q2] at e2
        by_cases q3 : m = y
        · rw [decide_eq_true q3] at e3
          rw [if_pos (.inr q3)]
          simp only [F_comes_of, m_comes_of, sStar, sLst, ptD, Int.ofNat_lt, Int.ofNat_le, bind_ok, bind_exc, bind_stuck, sizeLine_eq, fMod_i, fFdiv_i, fMul_i, fMul_i1, fMul_i2, fm0, fm1, fAdd_i, fSub_i, fPow_i, fAdd_l, fAdd_t, fAdd_s, fLt_i, fLe_i, fGt_i, fGe_i, evO, resW, evR, bPrim, bC, bVar, tTru, tBool, tNotB, tAndB, tOrB, bAnd, bOr, bNot, bIf, wIf, evX, bTup, wLst, wPrim, wVal, eFrz, wCall, sOk, sRet, sSet, sIf, sSeq, sDrop, sPar, evW, setAll, Tg.asg, Tg.asgs, mMut, sPutL, bGet, sPutD, wDisp, ePub, bIxL, sPutS, mChk, mInt, D.isStr, D.isInt, D.tru, fLen_l, fLen_t, List.length_map, iVal, itemsD, iRange, plainS, wipeE, backE, wComp, wCompB, List.all_cons, List.all_nil, Slot.isVal, Bool.and_true, Bool.true_and, Bool.and_self, fsem, env0, fill, wMove, Slot.frz, List.getElem?_cons_zero, List.getElem?_cons_succ, List.set_cons_zero, List.set_cons_succ, List.map_cons, List.map_nil, List.cons_append, List.nil_append, List.reduceReplicate, Option.getD_some, List.length_cons, List.length_nil, List.getD_cons_zero, List.getD_cons_succ, Nat.reduceAdd, Nat.reduceSub, Option.map_some, if_true, if_false, ite_true, ite_false, Bool.false_eq_true, reduceIte, Nat.reduceLeDiff, Nat.reduceEqDiff, Int.reduceEq, Int.reduceNe, Int.reduceLT, Int.reduceLE, Int.reduceNeg, Int.reducePow, ne_eq, not_false_eq_true, decide_true, decide_false, true_and, and_true, true_or, or_true, and_self, Bool.not_true, Bool.not_false, reduceCtorEq, List.take_succ_cons, List.take_zero, List.drop_succ_cons, List.drop_zero, reg_stay, e1, e2, e3]
          rfl
        · rw [decide_eq_false q3] at e3
          rw [if_neg (by rintro (z | z); exact q2 z; exact q3 z)]
          simp only [F_comes_of, m_comes_of, sStar, sLst, ptD, Int.ofNat_lt, Int.ofNat_le, bind_ok, bind_exc, bind_stuck, sizeLine_eq, fMod_i, fFdiv_i, fMul_i, fMul_i1, fMul_i2, fm0, fm1, fAdd_i, fSub_i, fPow_i, fAdd_l, fAdd_t, fAdd_s, fLt_i, fLe_i, fGt_i, fGe_i, evO, resW, evR, bPrim, bC, bVar, tTru, tBool, tNotB, tAndB, tOrB, bAnd, bOr, bNot, bIf, wIf, evX, bTup, wLst, wPrim, wVal, eFrz, wCall, sOk, sRet, sSet, sIf, sSeq, sDrop, sPar, evW, setAll, Tg.asg, Tg.asgs, mMut, sPutL, bGet, sPutD, wDisp, ePub, bIxL, sPutS, mChk, mInt, D.isStr, D.isInt, D.tru, fLen_l, fLen_t, List.length_map, iVal, itemsD, iRange, plainS, wipeE, backE, wComp, wCompB, List.all_cons, List.all_nil, Slot.isVal, Bool.and_true, Bool.true_and, Bool.and_self, fsem, env0, fill, wMove, Slot.frz, List.getElem?_cons_zero, List.getElem?_cons_succ, List.set_cons_zero, List.set_cons_succ, List.map_cons, List.map_nil, List.cons_append, List.nil_append, List.reduceReplicate, Option.getD_some, List.length_cons, List.length_nil, List.getD_cons_zero, List.getD_cons_succ, Nat.reduceAdd, Nat.reduceSub, Option.map_some, if_true, if_false, ite_true, ite_false, Bool.false_eq_true, reduceIte, Nat.reduceLeDiff, Nat.reduceEqDiff, Int.reduceEq, Int.reduceNe, Int.reduceLT, Int.reduceLE, Int.reduceNeg, Int.reducePow, ne_eq, not_false_eq_true, decide_true, decide_false, true_and, and_true, true_or, or_true, and_self, Bool.not_true, Bool.not_false, reduceCtorEq, List.take_succ_cons, List.take_zero, List.drop_succ_cons, List.drop_zero, reg_stay, e1, e2, e3]
          rfl
def tailD : Pt Str → D
  | .stay xs => .tup [.tup (dl xs)]
  | .reg o m y => .tup [.tup (dl o), .tup (dl m), .tup (dl y)]
def clash (p : Pt Str) : Bool := (come p).isNone
def clF (ps : List (Pt Str)) : List D := (ps.filter clash).map tailD
theorem tail_ok (p : Pt Str) : fSl10 [ptD p, .int 1] = some (tailD p) := by
  cases p <;> exact sl_from_t _ 1
theorem isN_oD (o : Option (List Str)) : fIsN [oD o, .non] = some (.bl o.isNone) := by cases o <;> rfl
theorem clashes_ok {base left right : List Str} (h : L3 base left right) (S : Sto) : ∃ X, F_clashes [.tup (dl base), .tup (dl left), .tup (dl right)] S = .ok (.val (.tup (clF (PS base left right)))) [] (S ++ X) := by
  obtain ⟨X, hx⟩ := parts_of_ok h S
  refine ⟨X, ?_⟩
  have pl := PS_len h
  have pk := PS_ok h
  have k := compL_map (vs := [3]) (t := .nm 3) (tt := m_clashes_0) (m := m_clashes_1) (e0 := [(some (Slot.val (.tup (dl base)))), (some (Slot.val (.tup (dl left)))), (some (Slot.val (.tup (dl right)))), none]) (S := S ++ X) ptD clash tailD (PS base left right) [] (by simp; omega) fun p hp => by
    have c := comes_of_ok (pk p hp) (S ++ X)
    refine ⟨[(some (Slot.val (.tup (dl base)))), (some (Slot.val (.tup (dl left)))), (some (Slot.val (.tup (dl right)))), (some (Slot.val (ptD p)))], [(some (Slot.val (.tup (dl base)))), (some (Slot.val (.tup (dl left)))), (some (Slot.val (.tup (dl right)))), (some (Slot.val (ptD p)))], [(some (Slot.val (.tup (dl base)))), (some (Slot.val (.tup (dl left)))), (some (Slot.val (.tup (dl right)))), (some (Slot.val (ptD p)))], rfl, ?_, fun _ => ⟨?_, rfl⟩, fun _ => rfl⟩
    · simp only [m_clashes_0, Int.ofNat_lt, Int.ofNat_le, bind_ok, bind_exc, bind_stuck, sizeLine_eq, fMod_i, fFdiv_i, fMul_i, fMul_i1, fMul_i2, fm0, fm1, fAdd_i, fSub_i, fPow_i, fAdd_l, fAdd_t, fAdd_s, fLt_i, fLe_i, fGt_i, fGe_i, evO, resW, evR, bPrim, bC, bVar, tTru, tBool, tNotB, tAndB, tOrB, bAnd, bOr, bNot, bIf, wIf, evX, bTup, wLst, wPrim, wVal, eFrz, wCall, sOk, sRet, sSet, sIf, sSeq, sDrop, sPar, evW, setAll, Tg.asg, Tg.asgs, mMut, sPutL, bGet, sPutD, wDisp, ePub, bIxL, sPutS, mChk, mInt, D.isStr, D.isInt, D.tru, fLen_l, fLen_t, List.length_map, iVal, itemsD, iRange, plainS, wipeE, backE, wComp, wCompB, List.all_cons, List.all_nil, Slot.isVal, Bool.and_true, Bool.true_and, Bool.and_self, fsem, env0, fill, wMove, Slot.frz, List.getElem?_cons_zero, List.getElem?_cons_succ, List.set_cons_zero, List.set_cons_succ, List.map_cons, List.map_nil, List.cons_append, List.nil_append, List.reduceReplicate, Option.getD_some, List.length_cons, List.length_nil, List.getD_cons_zero, List.getD_cons_succ, Nat.reduceAdd, Nat.reduceSub, Option.map_some, if_true, if_false, ite_true, ite_false, Bool.false_eq_true, reduceIte, Nat.reduceLeDiff, Nat.reduceEqDiff, Int.reduceEq, Int.reduceNe, Int.reduceLT, Int.reduceLE, Int.reduceNeg, Int.reducePow, ne_eq, not_false_eq_true, decide_true, decide_false, true_and, and_true, true_or, or_true, and_self, Bool.not_true, Bool.not_false, reduceCtorEq, c, isN_oD, clash]
    · simp only [m_clashes_1, Int.ofNat_lt, Int.ofNat_le, bind_ok, bind_exc, bind_stuck, sizeLine_eq, fMod_i, fFdiv_i, fMul_i, fMul_i1, fMul_i2, fm0, fm1, fAdd_i, fSub_i, fPow_i, fAdd_l, fAdd_t, fAdd_s, fLt_i, fLe_i, fGt_i, fGe_i, evO, resW, evR, bPrim, bC, bVar, tTru, tBool, tNotB, tAndB, tOrB, bAnd, bOr, bNot, bIf, wIf, evX, bTup, wLst, wPrim, wVal, eFrz, wCall, sOk, sRet, sSet, sIf, sSeq, sDrop, sPar, evW, setAll, Tg.asg, Tg.asgs, mMut, sPutL, bGet, sPutD, wDisp, ePub, bIxL, sPutS, mChk, mInt, D.isStr, D.isInt, D.tru, fLen_l, fLen_t, List.length_map, iVal, itemsD, iRange, plainS, wipeE, backE, wComp, wCompB, List.all_cons, List.all_nil, Slot.isVal, Bool.and_true, Bool.true_and, Bool.and_self, fsem, env0, fill, wMove, Slot.frz, List.getElem?_cons_zero, List.getElem?_cons_succ, List.set_cons_zero, List.set_cons_succ, List.map_cons, List.map_nil, List.cons_append, List.nil_append, List.reduceReplicate, Option.getD_some, List.length_cons, List.length_nil, List.getD_cons_zero, List.getD_cons_succ, Nat.reduceAdd, Nat.reduceSub, Option.map_some, if_true, if_false, ite_true, ite_false, Bool.false_eq_true, reduceIte, Nat.reduceLeDiff, Nat.reduceEqDiff, Int.reduceEq, Int.reduceNe, Int.reduceLT, Int.reduceLE, Int.reduceNeg, Int.reducePow, ne_eq, not_false_eq_true, decide_true, decide_false, true_and, and_true, true_or, or_true, and_self, Bool.not_true, Bool.not_false, reduceCtorEq, tail_ok]
  rw [List.nil_append] at k
  rw [show (PS base left right).map ptD = ptsD (PS base left right) from rfl, show ((PS base left right).filter clash).map tailD = clF (PS base left right) from rfl] at k
  have ft : ∀ ds, fTuple [.lst ds] = some (.tup ds) := fun _ => rfl
  simp only [F_clashes, m_clashes, Int.ofNat_lt, Int.ofNat_le, bind_ok, bind_exc, bind_stuck, sizeLine_eq, fMod_i, fFdiv_i, fMul_i, fMul_i1, fMul_i2, fm0, fm1, fAdd_i, fSub_i, fPow_i, fAdd_l, fAdd_t, fAdd_s, fLt_i, fLe_i, fGt_i, fGe_i, evO, resW, evR, bPrim, bC, bVar, tTru, tBool, tNotB, tAndB, tOrB, bAnd, bOr, bNot, bIf, wIf, evX, bTup, wLst, wPrim, wVal, eFrz, wCall, sOk, sRet, sSet, sIf, sSeq, sDrop, sPar, evW, setAll, Tg.asg, Tg.asgs, mMut, sPutL, bGet, sPutD, wDisp, ePub, bIxL, sPutS, mChk, mInt, D.isStr, D.isInt, D.tru, fLen_l, fLen_t, List.length_map, iVal, itemsD, iRange, plainS, wipeE, backE, wComp, wCompB, List.all_cons, List.all_nil, Slot.isVal, Bool.and_true, Bool.true_and, Bool.and_self, fsem, env0, fill, wMove, Slot.frz, List.getElem?_cons_zero, List.getElem?_cons_succ, List.set_cons_zero, List.set_cons_succ, List.map_cons, List.map_nil, List.cons_append, List.nil_append, List.reduceReplicate, Option.getD_some, List.length_cons, List.length_nil, List.getD_cons_zero, List.getD_cons_succ, Nat.reduceAdd, Nat.reduceSub, Option.map_some, if_true, if_false, ite_true, ite_false, Bool.false_eq_true, reduceIte, Nat.reduceLeDiff, Nat.reduceEqDiff, Int.reduceEq, Int.reduceNe, Int.reduceLT, Int.reduceLE, Int.reduceNeg, Int.reducePow, ne_eq, not_false_eq_true, decide_true, decide_false, true_and, and_true, true_or, or_true, and_self, Bool.not_true, Bool.not_false, reduceCtorEq, hx]
  rw [k]
  simp only [Int.ofNat_lt, Int.ofNat_le, bind_ok, bind_exc, bind_stuck, sizeLine_eq, fMod_i, fFdiv_i, fMul_i, fMul_i1, fMul_i2, fm0, fm1, fAdd_i, fSub_i, fPow_i, fAdd_l, fAdd_t, fAdd_s, fLt_i, fLe_i, fGt_i, fGe_i, evO, resW, evR, bPrim, bC, bVar, tTru, tBool, tNotB, tAndB, tOrB, bAnd, bOr, bNot, bIf, wIf, evX, bTup, wLst, wPrim, wVal, eFrz, wCall, sOk, sRet, sSet, sIf, sSeq, sDrop, sPar, evW, setAll, Tg.asg, Tg.asgs, mMut, sPutL, bGet, sPutD, wDisp, ePub, bIxL, sPutS, mChk, mInt, D.isStr, D.isInt, D.tru, fLen_l, fLen_t, List.length_map, iVal, itemsD, iRange, plainS, wipeE, backE, wComp, wCompB, List.all_cons, List.all_nil, Slot.isVal, Bool.and_true, Bool.true_and, Bool.and_self, fsem, env0, fill, wMove, Slot.frz, List.getElem?_cons_zero, List.getElem?_cons_succ, List.set_cons_zero, List.set_cons_succ, List.map_cons, List.map_nil, List.cons_append, List.nil_append, List.reduceReplicate, Option.getD_some, List.length_cons, List.length_nil, List.getD_cons_zero, List.getD_cons_succ, Nat.reduceAdd, Nat.reduceSub, Option.map_some, if_true, if_false, ite_true, ite_false, Bool.false_eq_true, reduceIte, Nat.reduceLeDiff, Nat.reduceEqDiff, Int.reduceEq, Int.reduceNe, Int.reduceLT, Int.reduceLE, Int.reduceNeg, Int.reducePow, ne_eq, not_false_eq_true, decide_true, decide_false, true_and, and_true, true_or, or_true, and_self, Bool.not_true, Bool.not_false, reduceCtorEq, ft]

/-! ### right -/
theorem noRefs_dl (xs : List Str) : noRefs (dl xs) = true := by
  induction xs with
  | nil => rfl
  | cons x xs ih => exact ih
theorem lent_t (xs : List Str) : lentS (some (Slot.val (.tup (dl xs)))) = (some (Slot.val (.tup (dl xs)))) := by
  show (if (D.tup (dl xs)).noRef = true then _ else _) = _
  rw [show (D.tup (dl xs)).noRef = noRefs (dl xs) from rfl, noRefs_dl, if_pos rfl]
theorem noRefs_pts : ∀ ps : List (Pt Str), noRefs (ptsD ps) = true
  | [] => rfl
  | p :: ps => by
    show ((ptD p).noRef && noRefs (ptsD ps)) = true
    rw [noRefs_pts ps, Bool.and_true]
    cases p with
    | reg o m y =>
      show (true && ((D.tup (dl o)).noRef && ((D.tup (dl m)).noRef && ((D.tup (dl y)).noRef && true)))) = true
      rw [show (D.tup (dl o)).noRef = noRefs (dl o) from rfl, show (D.tup (dl m)).noRef = noRefs (dl m) from rfl, show (D.tup (dl y)).noRef = noRefs (dl y) from rfl, noRefs_dl, noRefs_dl, noRefs_dl]; rfl
    | stay b =>
      show (true && ((D.tup (dl b)).noRef && true)) = true
      rw [show (D.tup (dl b)).noRef = noRefs (dl b) from rfl, noRefs_dl]; rfl
theorem lent_o (ps : List (Pt Str)) : lentS (some (.own (ptsD ps))) = (some (Slot.val (.lst (ptsD ps)))) := by
  show (if noRefs (ptsD ps) = true then _ else _) = _
  rw [noRefs_pts, if_pos rfl]
theorem lent_s (x : Str) : lentS (some (Slot.val (.str x))) = (some (Slot.val (.str x))) := rfl
theorem lent_n : lentS none = none := rfl
theorem shw_tx {xs : List Str} (h : TxOk xs) (hl : xs.length ≤ 20) : Shw 1 16100 (.tup (dl xs)) := by
  have := Shw.tup (k := 0) (B := 802) (ds := dl xs) fun d hd => by
    unfold dl at hd
    obtain ⟨x, hx, rfl⟩ := List.mem_map.mp hd
    exact Shw.str (h x hx).1 fun c hc => by have := (h x hx).2 c hc; omega
  exact this.mono (Nat.le_refl _) (by rw [dl_length]; omega)
theorem repr_3 {base left right : List Str} (h : L3 base left right) : fRepr [.lst [.tup (dl base), .tup (dl left), .tup (dl right)]] = some (.str (D.lst [.tup (dl base), .tup (dl left), .tup (dl right)]).py.shown) := by
  refine repr_l (k := 2) (B := 100000) ?_ (by decide) (by decide)
  refine (Shw.lst (k := 1) (B := 16100) fun d hd => ?_).mono (Nat.le_refl _) (by simp)
  simp only [List.mem_cons, List.not_mem_nil, or_false] at hd
  rcases hd with rfl | rfl | rfl
  · exact shw_tx h.ob h.b
  · exact shw_tx h.ol h.l
  · exact shw_tx h.or h.r
def PtLen (p : Pt Str) : Prop := p.one.length ≤ 20 ∧ p.two.length ≤ 20 ∧ p.three.length ≤ 20
theorem shw_pt {p : Pt Str} (h : PtOk p) (hl : PtLen p) : Shw 2 65000 (ptD p) := by
  cases p with
  | reg o m y =>
    refine (Shw.tup (k := 1) (B := 16100) fun d hd => ?_).mono (Nat.le_refl _) (by simp)
    simp only [List.mem_cons, List.not_mem_nil, or_false] at hd
    rcases hd with rfl | rfl | rfl | rfl
    · exact (Shw.str (n := 10) (by decide) (by decide +kernel)).mono (by decide) (by decide)
    · exact shw_tx h.1 hl.1
    · exact shw_tx h.2.1 hl.2.1
    · exact shw_tx h.2.2 hl.2.2
  | stay b =>
    refine (Shw.tup (k := 1) (B := 16100) fun d hd => ?_).mono (Nat.le_refl _) (by simp)
    simp only [List.mem_cons, List.not_mem_nil, or_false] at hd
    rcases hd with rfl | rfl
    · exact (Shw.str (n := 10) (by decide) (by decide +kernel)).mono (by decide) (by decide)
    · exact shw_tx h hl.1
theorem mem_flat_len {f : Pt Str → List Str} {ps : List (Pt Str)} {p : Pt Str} (h : p ∈ ps) : (f p).length ≤ (ps.flatMap f).length := by
  induction ps with
  | nil => cases h
  | cons q ps ih =>
    rw [List.flatMap_cons, List.length_append]
    rcases List.mem_cons.mp h with e | e
    · subst e; omega
    · have := ih e; omega
theorem PS_one (base left right : List Str) : (PS base left right).flatMap (proj 1) = base := parts_one (tris_comm base left right)
theorem PS_two (base left right : List Str) : (PS base left right).flatMap (proj 2) = left := parts_two (tris_comm base left right)
theorem PS_three (base left right : List Str) : (PS base left right).flatMap (proj 3) = right := parts_three (tris_comm base left right)
theorem PS_plen {base left right : List Str} (h : L3 base left right) : ∀ p ∈ PS base left right, PtLen p := fun p hp => by
  have h1 := mem_flat_len (f := proj 1) hp
  have h2 := mem_flat_len (f := proj 2) hp
  have h3 := mem_flat_len (f := proj 3) hp
  rw [PS_one] at h1
  rw [PS_two] at h2
  rw [PS_three] at h3
  exact ⟨Nat.le_trans h1 h.b, Nat.le_trans h2 h.l, Nat.le_trans h3 h.r⟩
theorem repr_ps {base left right : List Str} (h : L3 base left right) : fRepr [.lst (ptsD (PS base left right))] = some (.str (D.lst (ptsD (PS base left right))).py.shown) := by
  refine repr_l (k := 3) (B := 3000000) ?_ (by decide) (by decide)
  refine (Shw.lst (k := 2) (B := 65000) fun d hd => ?_).mono (Nat.le_refl _) (by have := PS_len h; rw [ptsD_len]; omega)
  unfold ptsD at hd
  obtain ⟨p, hp, rfl⟩ := List.mem_map.mp hd
  exact shw_pt (PS_ok h p hp) (PS_plen h p hp)
theorem shw_tail {p : Pt Str} (h : PtOk p) (hl : PtLen p) : Shw 2 65000 (tailD p) := by
  cases p with
  | reg o m y =>
    refine (Shw.tup (k := 1) (B := 16100) fun d hd => ?_).mono (Nat.le_refl _) (by simp)
    simp only [List.mem_cons, List.not_mem_nil, or_false] at hd
    rcases hd with rfl | rfl | rfl
    · exact shw_tx h.1 hl.1
    · exact shw_tx h.2.1 hl.2.1
    · exact shw_tx h.2.2 hl.2.2
  | stay b =>
    refine (Shw.tup (k := 1) (B := 16100) fun d hd => ?_).mono (Nat.le_refl _) (by simp)
    rw [List.mem_singleton] at hd; subst hd
    exact shw_tx h hl.1
theorem repr_t {k B : Nat} {ds : List D} (h : Shw k B (.tup ds)) (hk : k ≤ 64) (hB : B ≤ 16777216) : fRepr [.tup ds] = some (.str (D.tup ds).py.shown) := by
  have : (D.tup ds).shows = true := by
    unfold D.shows
    rw [h.dat, h.sho, decide_eq_true (Nat.le_trans h.dep hk), decide_eq_true (show (D.tup ds).py.shown.length ≤ sizeLine by rw [sizeLine_eq]; exact Nat.le_trans h.len hB)]
    rfl
  exact if_pos this
theorem repr_cl {base left right : List Str} (h : L3 base left right) : fRepr [.tup (clF (PS base left right))] = some (.str (D.tup (clF (PS base left right))).py.shown) := by
  refine repr_t (k := 3) (B := 3000000) ?_ (by decide) (by decide)
  refine (Shw.tup (k := 2) (B := 65000) fun d hd => ?_).mono (Nat.le_refl _) (by
    have := PS_len h
    have := List.length_filter_le clash (PS base left right)
    unfold clF
    rw [List.length_map]; omega)
  unfold clF at hd
  obtain ⟨p, hp, rfl⟩ := List.mem_map.mp hd
  have hp := (List.mem_filter.mp hp).1
  exact shw_tail (PS_ok h p hp) (PS_plen h p hp)
theorem ne_self (x : Str) : fNe [.str x, .str x] = some (.bl false) := by rw [ne_str, decide_eq_true rfl]; rfl
theorem eq_self (x : Str) : fEq [.str x, .str x] = some (.bl true) := by rw [eq_str, decide_eq_true rfl]
theorem ne_3 {base left right : List Str} (h : L3 base left right) : fNe [.tup [.tup (dl base), .tup (dl left), .tup (dl right)], .tup [.tup (dl base), .tup (dl left), .tup (dl right)]] = some (.bl false) := by
  have i : Decidable (D.tup [.tup (dl base), .tup (dl left), .tup (dl right)] = D.tup [.tup (dl base), .tup (dl left), .tup (dl right)]) := Classical.propDecidable _
  have w : Wf 2 (.tup [.tup (dl base), .tup (dl left), .tup (dl right)]) := Wf.tup fun d hd => by
    simp only [List.mem_cons, List.not_mem_nil, or_false] at hd
    rcases hd with rfl | rfl | rfl
    · exact wf_lines h.ob
    · exact wf_lines h.ol
    · exact wf_lines h.or
  rw [ne_cmp w.cmp w.cmp, decide_eq_true rfl]; rfl
def c1 : Pt Str → Bool
  | .stay _ => false
  | .reg o m y => decide (m ≠ o) && decide (y ≠ o)
def c2 : Pt Str → Bool
  | .stay _ => false
  | .reg _ m y => decide (m ≠ y)
theorem c12 (ps : List (Pt Str)) : (ps.filter c1).filter c2 = ps.filter clash := by
  rw [List.filter_filter]
  congr 1
  funext p
  cases p with
  | stay _ => rfl
  | reg o m y =>
    unfold clash come c1 c2
    by_cases q1 : m = o
    · simp [q1]
    · by_cases q2 : y = o
      · simp [q1, q2]
      · by_cases q3 : m = y
        · simp [q1, q2, q3]
        · simp [q1, q2, q3]
def envR' (base left right : List Str) (x3 x4 x5 x6 x7 : Option Slot) : Env := [(some (Slot.val (.tup (dl base)))), (some (Slot.val (.tup (dl left)))), (some (Slot.val (.tup (dl right)))), x3, x4, x5, x6, x7]
theorem cl1_ok {base left right : List Str} {x3 x4 x5 x6 : Option Slot} {ps : List (Pt Str)} (hp : ∀ p ∈ ps, PtOk p) (hl : ps.length ≤ 1000) (S : Sto) : compL [7] (.nm 7) m__law_right_0 (turn1 m__law_right_1) (ptsD ps) [] (envR' base left right x3 x4 x5 x6 none) S = .ok ((ps.filter c1).map tailD) (envR' base left right x3 x4 x5 x6 none) S := by
  refine compL_map ptD c1 tailD ps [] (by simp; omega) fun p hm => ?_
  refine ⟨envR' base left right x3 x4 x5 x6 (some (Slot.val (ptD p))), envR' base left right x3 x4 x5 x6 (some (Slot.val (ptD p))), envR' base left right x3 x4 x5 x6 (some (Slot.val (ptD p))), rfl, ?_, fun _ => ⟨?_, rfl⟩, fun _ => rfl⟩
  · have ok := hp p hm
    cases p with
    | stay b =>
      have l0 : fIx [ptD (.stay b), .int 0] = some (.str "stay") := rfl
      simp only [m__law_right_0, envR', Int.ofNat_lt, Int.ofNat_le, bind_ok, bind_exc, bind_stuck, sizeLine_eq, fMod_i, fFdiv_i, fMul_i, fMul_i1, fMul_i2, fm0, fm1, fAdd_i, fSub_i, fPow_i, fAdd_l, fAdd_t, fAdd_s, fLt_i, fLe_i, fGt_i, fGe_i, evO, resW, evR, bPrim, bC, bVar, tTru, tBool, tNotB, tAndB, tOrB, bAnd, bOr, bNot, bIf, wIf, evX, bTup, wLst, wPrim, wVal, eFrz, wCall, sOk, sRet, sSet, sIf, sSeq, sDrop, sPar, evW, setAll, Tg.asg, Tg.asgs, mMut, sPutL, bGet, sPutD, wDisp, ePub, bIxL, sPutS, mChk, mInt, D.isStr, D.isInt, D.tru, fLen_l, fLen_t, List.length_map, iVal, itemsD, iRange, plainS, wipeE, backE, wComp, wCompB, List.all_cons, List.all_nil, Slot.isVal, Bool.and_true, Bool.true_and, Bool.and_self, fsem, env0, fill, wMove, Slot.frz, List.getElem?_cons_zero, List.getElem?_cons_succ, List.set_cons_zero, List.set_cons_succ, List.map_cons, List.map_nil, List.cons_append, List.nil_append, List.reduceReplicate, Option.getD_some, List.length_cons, List.length_nil, List.getD_cons_zero, List.getD_cons_succ, Nat.reduceAdd, Nat.reduceSub, Option.map_some, if_true, if_false, ite_true, ite_false, Bool.false_eq_true, reduceIte, Nat.reduceLeDiff, Nat.reduceEqDiff, Int.reduceEq, Int.reduceNe, Int.reduceLT, Int.reduceLE, Int.reduceNeg, Int.reducePow, ne_eq, not_false_eq_true, decide_true, decide_false, true_and, and_true, true_or, or_true, and_self, Bool.not_true, Bool.not_false, reduceCtorEq, l0, stay_reg, c1]
    | reg o m y =>
      have l0 : fIx [ptD (.reg o m y), .int 0] = some (.str "region") := rfl
      have l1 : fIx [ptD (.reg o m y), .int 1] = some (.tup (dl o)) := rfl
      have l2 : fIx [ptD (.reg o m y), .int 2] = some (.tup (dl m)) := rfl
      have l3 : fIx [ptD (.reg o m y), .int 3] = some (.tup (dl y)) := rfl
      have e1 := ne_tx ok.2.1 ok.1
      have e2 := ne_tx ok.2.2 ok.1
      show _ = Out.ok (decide (m ≠ o) && decide (y ≠ o)) _ _
      by_cases q1 : m = o
      · rw [decide_eq_true q1] at e1
        rw [show decide (m ≠ o) = false from decide_eq_false fun z => z q1]
        simp only [m__law_right_0, envR', Int.ofNat_lt, Int.ofNat_le, bind_ok, bind_exc, bind_stuck, sizeLine_eq, fMod_i, fFdiv_i, fMul_i, fMul_i1, fMul_i2, fm0, fm1, fAdd_i, fSub_i, fPow_i, fAdd_l, fAdd_t, fAdd_s, fLt_i, fLe_i, fGt_i, fGe_i, evO, resW, evR, bPrim, bC, bVar, tTru, tBool, tNotB, tAndB, tOrB, bAnd, bOr, bNot, bIf, wIf, evX, bTup, wLst, wPrim, wVal, eFrz, wCall, sOk, sRet, sSet, sIf, sSeq, sDrop, sPar, evW, setAll, Tg.asg, Tg.asgs, mMut, sPutL, bGet, sPutD, wDisp, ePub, bIxL, sPutS, mChk, mInt, D.isStr, D.isInt, D.tru, fLen_l, fLen_t, List.length_map, iVal, itemsD, iRange, plainS, wipeE, backE, wComp, wCompB, List.all_cons, List.all_nil, Slot.isVal, Bool.and_true, Bool.true_and, Bool.and_self, fsem, env0, fill, wMove, Slot.frz, List.getElem?_cons_zero, List.getElem?_cons_succ, List.set_cons_zero, List.set_cons_succ, List.map_cons, List.map_nil, List.cons_append, List.nil_append, List.reduceReplicate, Option.getD_some, List.length_cons, List.length_nil, List.getD_cons_zero, List.getD_cons_succ, Nat.reduceAdd, Nat.reduceSub, Option.map_some, if_true, if_false, ite_true, ite_false, Bool.false_eq_true, reduceIte, Nat.reduceLeDiff, Nat.reduceEqDiff, Int.reduceEq, Int.reduceNe, Int.reduceLT, Int.reduceLE, Int.reduceNeg, Int.reducePow, ne_eq, not_false_eq_true, decide_true, decide_false, true_and, and_true, true_or, or_true, and_self, Bool.not_true, Bool.not_false, reduceCtorEq, l0, l1, l2, reg_reg, e1, Bool.false_and]
      · rw [decide_eq_false q1] at e1
        rw [show decide (m ≠ o) = true from decide_eq_true q1]
        by_cases q2 : y = o
        · rw [decide_eq_true q2] at e2
          rw [show decide (y ≠ o) = false from decide_eq_false fun z => z q2]
          simp only [m__law_right_0, envR', Int.ofNat_lt, Int.ofNat_le, bind_ok, bind_exc, bind_stuck, sizeLine_eq, fMod_i, fFdiv_i, fMul_i, fMul_i1, fMul_i2, fm0, fm1, fAdd_i, fSub_i, fPow_i, fAdd_l, fAdd_t, fAdd_s, fLt_i, fLe_i, fGt_i, fGe_i, evO, resW, evR, bPrim, bC, bVar, tTru, tBool, tNotB, tAndB, tOrB, bAnd, bOr, bNot, bIf, wIf, evX, bTup, wLst, wPrim, wVal, eFrz, wCall, sOk, sRet, sSet, sIf, sSeq, sDrop, sPar, evW, setAll, Tg.asg, Tg.asgs, mMut, sPutL, bGet, sPutD, wDisp, ePub, bIxL, sPutS, mChk, mInt, D.isStr, D.isInt, D.tru, fLen_l, fLen_t, List.length_map, iVal, itemsD, iRange, plainS, wipeE, backE, wComp, wCompB, List.all_cons, List.all_nil, Slot.isVal, Bool.and_true, Bool.true_and, Bool.and_self, fsem, env0, fill, wMove, Slot.frz, List.getElem?_cons_zero, List.getElem?_cons_succ, List.set_cons_zero, List.set_cons_succ, List.map_cons, List.map_nil, List.cons_append, List.nil_append, List.reduceReplicate, Option.getD_some, List.length_cons, List.length_nil, List.getD_cons_zero, List.getD_cons_succ, Nat.reduceAdd, Nat.reduceSub, Option.map_some, if_true, if_false, ite_true, ite_false, Bool.false_eq_true, reduceIte, Nat.reduceLeDiff, Nat.reduceEqDiff, Int.reduceEq, Int.reduceNe, Int.reduceLT, Int.reduceLE, Int.reduceNeg, Int.reducePow, ne_eq, not_false_eq_true, decide_true, decide_false, true_and, and_true, true_or, or_true, and_self, Bool.not_true, Bool.not_false, reduceCtorEq, l0, l1, l2, l3, reg_reg, e1, e2]
        · rw [decide_eq_false q2] at e2
          rw [show decide (y ≠ o) = true from decide_eq_true q2]
          simp only [m__law_right_0, envR', Int.ofNat_lt, Int.ofNat_le, bind_ok, bind_exc, bind_stuck, sizeLine_eq, fMod_i, fFdiv_i, fMul_i, fMul_i1, fMul_i2, fm0, fm1, fAdd_i, fSub_i, fPow_i, fAdd_l, fAdd_t, fAdd_s, fLt_i, fLe_i, fGt_i, fGe_i, evO, resW, evR, bPrim, bC, bVar, tTru, tBool, tNotB, tAndB, tOrB, bAnd, bOr, bNot, bIf, wIf, evX, bTup, wLst, wPrim, wVal, eFrz, wCall, sOk, sRet, sSet, sIf, sSeq, sDrop, sPar, evW, setAll, Tg.asg, Tg.asgs, mMut, sPutL, bGet, sPutD, wDisp, ePub, bIxL, sPutS, mChk, mInt, D.isStr, D.isInt, D.tru, fLen_l, fLen_t, List.length_map, iVal, itemsD, iRange, plainS, wipeE, backE, wComp, wCompB, List.all_cons, List.all_nil, Slot.isVal, Bool.and_true, Bool.true_and, Bool.and_self, fsem, env0, fill, wMove, Slot.frz, List.getElem?_cons_zero, List.getElem?_cons_succ, List.set_cons_zero, List.set_cons_succ, List.map_cons, List.map_nil, List.cons_append, List.nil_append, List.reduceReplicate, Option.getD_some, List.length_cons, List.length_nil, List.getD_cons_zero, List.getD_cons_succ, Nat.reduceAdd, Nat.reduceSub, Option.map_some, if_true, if_false, ite_true, ite_false, Bool.false_eq_true, reduceIte, Nat.reduceLeDiff, Nat.reduceEqDiff, Int.reduceEq, Int.reduceNe, Int.reduceLT, Int.reduceLE, Int.reduceNeg, Int.reducePow, ne_eq, not_false_eq_true, decide_true, decide_false, true_and, and_true, true_or, or_true, and_self, Bool.not_true, Bool.not_false, reduceCtorEq, l0, l1, l2, l3, reg_reg, e1, e2]
  · simp only [m__law_right_1, envR', Int.ofNat_lt, Int.ofNat_le, bind_ok, bind_exc, bind_stuck, sizeLine_eq, fMod_i, fFdiv_i, fMul_i, fMul_i1, fMul_i2, fm0, fm1, fAdd_i, fSub_i, fPow_i, fAdd_l, fAdd_t, fAdd_s, fLt_i, fLe_i, fGt_i, fGe_i, evO, resW, evR, bPrim, bC, bVar, tTru, tBool, tNotB, tAndB, tOrB, bAnd, bOr, bNot, bIf, wIf, evX, bTup, wLst, wPrim, wVal, eFrz, wCall, sOk, sRet, sSet, sIf, sSeq, sDrop, sPar, evW, setAll, Tg.asg, Tg.asgs, mMut, sPutL, bGet, sPutD, wDisp, ePub, bIxL, sPutS, mChk, mInt, D.isStr, D.isInt, D.tru, fLen_l, fLen_t, List.length_map, iVal, itemsD, iRange, plainS, wipeE, backE, wComp, wCompB, List.all_cons, List.all_nil, Slot.isVal, Bool.and_true, Bool.true_and, Bool.and_self, fsem, env0, fill, wMove, Slot.frz, List.getElem?_cons_zero, List.getElem?_cons_succ, List.set_cons_zero, List.set_cons_succ, List.map_cons, List.map_nil, List.cons_append, List.nil_append, List.reduceReplicate, Option.getD_some, List.length_cons, List.length_nil, List.getD_cons_zero, List.getD_cons_succ, Nat.reduceAdd, Nat.reduceSub, Option.map_some, if_true, if_false, ite_true, ite_false, Bool.false_eq_true, reduceIte, Nat.reduceLeDiff, Nat.reduceEqDiff, Int.reduceEq, Int.reduceNe, Int.reduceLT, Int.reduceLE, Int.reduceNeg, Int.reducePow, ne_eq, not_false_eq_true, decide_true, decide_false, true_and, and_true, true_or, or_true, and_self, Bool.not_true, Bool.not_false, reduceCtorEq, tail_ok]
theorem cl2_ok {base left right : List Str} {x3 x5 x6 : Option Slot} {ps : List (Pt Str)} (hp : ∀ p ∈ ps, PtOk p) (hl : ps.length ≤ 1000) (S : Sto) : compL [7] (.nm 7) m__law_right_2 (turn1 (bVar 7)) ((ps.filter c1).map tailD) [] (envR' base left right x3 (some (Slot.val (.lst ((ps.filter c1).map tailD)))) x5 x6 none) S = .ok (clF ps) (envR' base left right x3 (some (Slot.val (.lst ((ps.filter c1).map tailD)))) x5 x6 none) S := by
  unfold clF
  rw [← c12]
  refine compL_map tailD c2 tailD (ps.filter c1) [] (by have := List.length_filter_le c1 ps; simp; omega) fun p hm => ?_
  obtain ⟨hm1, hm2⟩ := List.mem_filter.mp hm
  refine ⟨envR' base left right x3 (some (Slot.val (.lst ((ps.filter c1).map tailD)))) x5 x6 (some (Slot.val (tailD p))), envR' base left right x3 (some (Slot.val (.lst ((ps.filter c1).map tailD)))) x5 x6 (some (Slot.val (tailD p))), envR' base left right x3 (some (Slot.val (.lst ((ps.filter c1).map tailD)))) x5 x6 (some (Slot.val (tailD p))), rfl, ?_, fun _ => ⟨rfl, rfl⟩, fun _ => rfl⟩
  have ok := hp p hm1
  cases p with
  | stay b => cases hm2
  | reg o m y =>
    have l1 : fIx [tailD (.reg o m y), .int 1] = some (.tup (dl m)) := rfl
    have l2 : fIx [tailD (.reg o m y), .int 2] = some (.tup (dl y)) := rfl
    have e1 := ne_tx ok.2.1 ok.2.2
    show _ = Out.ok (decide (m ≠ y)) _ _
    rw [← decide_not] at e1
    simp only [m__law_right_2, envR', Int.ofNat_lt, Int.ofNat_le, bind_ok, bind_exc, bind_stuck, sizeLine_eq, fMod_i, fFdiv_i, fMul_i, fMul_i1, fMul_i2, fm0, fm1, fAdd_i, fSub_i, fPow_i, fAdd_l, fAdd_t, fAdd_s, fLt_i, fLe_i, fGt_i, fGe_i, evO, resW, evR, bPrim, bC, bVar, tTru, tBool, tNotB, tAndB, tOrB, bAnd, bOr, bNot, bIf, wIf, evX, bTup, wLst, wPrim, wVal, eFrz, wCall, sOk, sRet, sSet, sIf, sSeq, sDrop, sPar, evW, setAll, Tg.asg, Tg.asgs, mMut, sPutL, bGet, sPutD, wDisp, ePub, bIxL, sPutS, mChk, mInt, D.isStr, D.isInt, D.tru, fLen_l, fLen_t, List.length_map, iVal, itemsD, iRange, plainS, wipeE, backE, wComp, wCompB, List.all_cons, List.all_nil, Slot.isVal, Bool.and_true, Bool.true_and, Bool.and_self, fsem, env0, fill, wMove, Slot.frz, List.getElem?_cons_zero, List.getElem?_cons_succ, List.set_cons_zero, List.set_cons_succ, List.map_cons, List.map_nil, List.cons_append, List.nil_append, List.reduceReplicate, Option.getD_some, List.length_cons, List.length_nil, List.getD_cons_zero, List.getD_cons_succ, Nat.reduceAdd, Nat.reduceSub, Option.map_some, if_true, if_false, ite_true, ite_false, Bool.false_eq_true, reduceIte, Nat.reduceLeDiff, Nat.reduceEqDiff, Int.reduceEq, Int.reduceNe, Int.reduceLT, Int.reduceLE, Int.reduceNeg, Int.reducePow, ne_eq, not_false_eq_true, decide_true, decide_false, true_and, and_true, true_or, or_true, and_self, Bool.not_true, Bool.not_false, reduceCtorEq, l1, l2, e1]
theorem right_ok {base left right : List Str} (h : L3 base left right) (S : Sto) : ∃ X, F__law_right [.tup (dl base), .tup (dl left), .tup (dl right)] S = .ok (.val (.bl true)) [] (S ++ X) := by
  obtain ⟨X1, p1⟩ := parts_of_ok h S
  obtain ⟨X2, p2⟩ := clashes_ok h (S ++ X1)
  obtain ⟨X3, p3⟩ := parts_of_ok h (S ++ X1 ++ X2)
  refine ⟨X1 ++ X2 ++ X3, ?_⟩
  have pl := PS_len h
  have pk := PS_ok h
  have lp := law_parts_ok h S
  have s1 := side_ok (k := 1) (by omega) (ps := PS base left right) (by rw [PS_one]; have := h.b; omega) []
  have s2 := side_ok (k := 2) (by omega) (ps := PS base left right) (by rw [PS_two]; have := h.l; omega) []
  have s3 := side_ok (k := 3) (by omega) (ps := PS base left right) (by rw [PS_three]; have := h.r; omega) []
  rw [PS_one] at s1
  rw [PS_two] at s2
  rw [PS_three] at s3
  have s1 : F__law_side [.lst (ptsD (PS base left right)), .int 1] [] = _ := s1
  have s2 : F__law_side [.lst (ptsD (PS base left right)), .int 2] [] = _ := s2
  have s3 : F__law_side [.lst (ptsD (PS base left right)), .int 3] [] = _ := s3
  have k1 := cl1_ok (base := base) (left := left) (right := right) (x3 := some (.own (ptsD (PS base left right)))) (x4 := none) (x5 := (some (Slot.val (.str (D.lst [.tup (dl base), .tup (dl left), .tup (dl right)]).py.shown)))) (x6 := (some (Slot.val (.lst (ptsD (PS base left right)))))) pk (by omega) (S ++ X1)
  have k2 := cl2_ok (base := base) (left := left) (right := right) (x3 := some (.own (ptsD (PS base left right)))) (x5 := (some (Slot.val (.str (D.lst [.tup (dl base), .tup (dl left), .tup (dl right)]).py.shown)))) (x6 := (some (Slot.val (.lst (ptsD (PS base left right)))))) pk (by omega) (S ++ X1)
  unfold envR' at k1 k2
  have ft : ∀ ds, fTuple [.lst ds] = some (.tup ds) := fun _ => rfl
  have r3 := repr_3 h
  have rp := repr_ps h
  have rc := repr_cl h
  have ca : (ptsD (PS base left right)).length + 1 ≤ 16777216 := by rw [ptsD_len]; omega
  have cb : (ptsD (PS base left right)).length ≤ 16777215 := by rw [ptsD_len]; omega
  simp only [F__law_right, m__law_right, Int.ofNat_lt, Int.ofNat_le, bind_ok, bind_exc, bind_stuck, sizeLine_eq, fMod_i, fFdiv_i, fMul_i, fMul_i1, fMul_i2, fm0, fm1, fAdd_i, fSub_i, fPow_i, fAdd_l, fAdd_t, fAdd_s, fLt_i, fLe_i, fGt_i, fGe_i, evO, resW, evR, bPrim, bC, bVar, tTru, tBool, tNotB, tAndB, tOrB, bAnd, bOr, bNot, bIf, wIf, evX, bTup, wLst, wPrim, wVal, eFrz, wCall, sOk, sRet, sSet, sIf, sSeq, sDrop, sPar, evW, setAll, Tg.asg, Tg.asgs, mMut, sPutL, bGet, sPutD, wDisp, ePub, bIxL, sPutS, mChk, mInt, D.isStr, D.isInt, D.tru, fLen_l, fLen_t, List.length_map, iVal, itemsD, iRange, plainS, wipeE, backE, wComp, wCompB, List.all_cons, List.all_nil, Slot.isVal, Bool.and_true, Bool.true_and, Bool.and_self, fsem, env0, fill, wMove, Slot.frz, List.getElem?_cons_zero, List.getElem?_cons_succ, List.set_cons_zero, List.set_cons_succ, List.map_cons, List.map_nil, List.cons_append, List.nil_append, List.reduceReplicate, Option.getD_some, List.length_cons, List.length_nil, List.getD_cons_zero, List.getD_cons_succ, Nat.reduceAdd, Nat.reduceSub, Option.map_some, if_true, if_false, ite_true, ite_false, Bool.false_eq_true, reduceIte, Nat.reduceLeDiff, Nat.reduceEqDiff, Int.reduceEq, Int.reduceNe, Int.reduceLT, Int.reduceLE, Int.reduceNeg, Int.reducePow, ne_eq, not_false_eq_true, decide_true, decide_false, true_and, and_true, true_or, or_true, and_self, Bool.not_true, Bool.not_false, reduceCtorEq, lp, r3, p1, tLend, lent_t, lent_o, lent_s, lent_n, rp, ne_self, s1, s2, s3, ne_3 h]
  rw [k1]
  simp only [Int.ofNat_lt, Int.ofNat_le, bind_ok, bind_exc, bind_stuck, sizeLine_eq, fMod_i, fFdiv_i, fMul_i, fMul_i1, fMul_i2, fm0, fm1, fAdd_i, fSub_i, fPow_i, fAdd_l, fAdd_t, fAdd_s, fLt_i, fLe_i, fGt_i, fGe_i, evO, resW, evR, bPrim, bC, bVar, tTru, tBool, tNotB, tAndB, tOrB, bAnd, bOr, bNot, bIf, wIf, evX, bTup, wLst, wPrim, wVal, eFrz, wCall, sOk, sRet, sSet, sIf, sSeq, sDrop, sPar, evW, setAll, Tg.asg, Tg.asgs, mMut, sPutL, bGet, sPutD, wDisp, ePub, bIxL, sPutS, mChk, mInt, D.isStr, D.isInt, D.tru, fLen_l, fLen_t, List.length_map, iVal, itemsD, iRange, plainS, wipeE, backE, wComp, wCompB, List.all_cons, List.all_nil, Slot.isVal, Bool.and_true, Bool.true_and, Bool.and_self, fsem, env0, fill, wMove, Slot.frz, List.getElem?_cons_zero, List.getElem?_cons_succ, List.set_cons_zero, List.set_cons_succ, List.map_cons, List.map_nil, List.cons_append, List.nil_append, List.reduceReplicate, Option.getD_some, List.length_cons, List.length_nil, List.getD_cons_zero, List.getD_cons_succ, Nat.reduceAdd, Nat.reduceSub, Option.map_some, if_true, if_false, ite_true, ite_false, Bool.false_eq_true, reduceIte, Nat.reduceLeDiff, Nat.reduceEqDiff, Int.reduceEq, Int.reduceNe, Int.reduceLT, Int.reduceLE, Int.reduceNeg, Int.reducePow, ne_eq, not_false_eq_true, decide_true, decide_false, true_and, and_true, true_or, or_true, and_self, Bool.not_true, Bool.not_false, reduceCtorEq]
  rw [k2]
  simp only [Int.ofNat_lt, Int.ofNat_le, bind_ok, bind_exc, bind_stuck, sizeLine_eq, fMod_i, fFdiv_i, fMul_i, fMul_i1, fMul_i2, fm0, fm1, fAdd_i, fSub_i, fPow_i, fAdd_l, fAdd_t, fAdd_s, fLt_i, fLe_i, fGt_i, fGe_i, evO, resW, evR, bPrim, bC, bVar, tTru, tBool, tNotB, tAndB, tOrB, bAnd, bOr, bNot, bIf, wIf, evX, bTup, wLst, wPrim, wVal, eFrz, wCall, sOk, sRet, sSet, sIf, sSeq, sDrop, sPar, evW, setAll, Tg.asg, Tg.asgs, mMut, sPutL, bGet, sPutD, wDisp, ePub, bIxL, sPutS, mChk, mInt, D.isStr, D.isInt, D.tru, fLen_l, fLen_t, List.length_map, iVal, itemsD, iRange, plainS, wipeE, backE, wComp, wCompB, List.all_cons, List.all_nil, Slot.isVal, Bool.and_true, Bool.true_and, Bool.and_self, fsem, env0, fill, wMove, Slot.frz, List.getElem?_cons_zero, List.getElem?_cons_succ, List.set_cons_zero, List.set_cons_succ, List.map_cons, List.map_nil, List.cons_append, List.nil_append, List.reduceReplicate, Option.getD_some, List.length_cons, List.length_nil, List.getD_cons_zero, List.getD_cons_succ, Nat.reduceAdd, Nat.reduceSub, Option.map_some, if_true, if_false, ite_true, ite_false, Bool.false_eq_true, reduceIte, Nat.reduceLeDiff, Nat.reduceEqDiff, Int.reduceEq, Int.reduceNe, Int.reduceLT, Int.reduceLE, Int.reduceNeg, Int.reducePow, ne_eq, not_false_eq_true, decide_true, decide_false, true_and, and_true, true_or, or_true, and_self, Bool.not_true, Bool.not_false, reduceCtorEq, ft, mfAppend, mfReverse, List.length_append, List.length_reverse, ca, cb, p2, p3, rc, rp, ne_self, r3, eq_self]
  simp only [List.append_assoc]

/-! ### the law -/
theorem Dr.begin (ns : List Int) (h : ns.length ≤ 63) : Dr 0 [.dict (drKv (ns ++ [0]) 0 0 0)] :=
  ⟨ns ++ [0], 0, 0, 0, [], rfl, by simp, by simp; omega, Int.le_refl _, Int.le_refl _, Int.le_refl _, Int.le_refl _, Int.le_refl _⟩
def envQ (ns : List D) (x2 x3 x4 x5 x6 : Option Slot) : Env := [(some (Slot.val (.lst ns))), (some (Slot.val (.ref 0))), x2, x3, x4, x5, x6, none]
theorem pool_ok {t : Nat} {S : Sto} {ns : List D} {x2 x3 x4 x5 x6 : Option Slot} {k : Nat} (h : Dr t S) (ht : t < 10000000) (hk : 1 ≤ k ∧ k ≤ 8) : ∃ pool S', Pool pool ∧ Dr (t + 200) S' ∧ compL [7] (.nm 7) bTT (turn1 m_law_0) (rangeD 0 k 1) [] (envQ ns x2 x3 x4 x5 x6) S = .ok (dl pool) (envQ ns x2 x3 x4 x5 x6) S' := by
  obtain ⟨ys, e', S3, k1, ⟨k2, k3⟩, k4, k5⟩ := compL_run (vs := [7]) (t := .nm 7) (m := m_law_0) (fun i e S' => e = envQ ns x2 x3 x4 x5 x6 ∧ Dr (t + 20 * i) S') (fun _ y => ∃ x, LineOk x ∧ y = .str x) (rangeD 0 k 1) 0 [] (envQ ns x2 x3 x4 x5 x6) S (by rw [rangeD_length]; simp; omega) ⟨rfl, h⟩ fun j d e S' hd hI => by
    obtain ⟨rfl, hD⟩ := hI
    have hj := (rangeD_get hd).1
    obtain ⟨x, S4, hx, d4, e4⟩ := line_ok hD (by omega)
    refine ⟨_, .str x, [(some (Slot.val (.lst ns))), (some (Slot.val (.ref 0))), x2, x3, x4, x5, x6, (some (Slot.val (d)))], S4, rfl, ?_, ⟨rfl, d4.mono (by omega)⟩, x, hx, rfl⟩
    simp only [m_law_0, envQ, Int.ofNat_lt, Int.ofNat_le, bind_ok, bind_exc, bind_stuck, sizeLine_eq, fMod_i, fFdiv_i, fMul_i, fMul_i1, fMul_i2, fm0, fm1, fAdd_i, fSub_i, fPow_i, fAdd_l, fAdd_t, fAdd_s, fLt_i, fLe_i, fGt_i, fGe_i, evO, resW, evR, bPrim, bC, bVar, tTru, tBool, tNotB, tAndB, tOrB, bAnd, bOr, bNot, bIf, wIf, evX, bTup, wLst, wPrim, wVal, eFrz, wCall, sOk, sRet, sSet, sIf, sSeq, sDrop, sPar, evW, setAll, Tg.asg, Tg.asgs, mMut, sPutL, bGet, sPutD, wDisp, ePub, bIxL, sPutS, mChk, mInt, D.isStr, D.isInt, D.tru, fLen_l, fLen_t, List.length_map, iVal, itemsD, iRange, plainS, wipeE, backE, wComp, wCompB, List.all_cons, List.all_nil, Slot.isVal, Bool.and_true, Bool.true_and, Bool.and_self, fsem, env0, fill, wMove, Slot.frz, List.getElem?_cons_zero, List.getElem?_cons_succ, List.set_cons_zero, List.set_cons_succ, List.map_cons, List.map_nil, List.cons_append, List.nil_append, List.reduceReplicate, Option.getD_some, List.length_cons, List.length_nil, List.getD_cons_zero, List.getD_cons_succ, Nat.reduceAdd, Nat.reduceSub, Option.map_some, if_true, if_false, ite_true, ite_false, Bool.false_eq_true, reduceIte, Nat.reduceLeDiff, Nat.reduceEqDiff, Int.reduceEq, Int.reduceNe, Int.reduceLT, Int.reduceLE, Int.reduceNeg, Int.reducePow, ne_eq, not_false_eq_true, decide_true, decide_false, true_and, and_true, true_or, or_true, and_self, Bool.not_true, Bool.not_false, reduceCtorEq, e4]
  subst k2
  obtain ⟨pool, rfl, hx⟩ := dl_of ys LineOk fun j y hy => k5 j y hy
  rw [dl_length, rangeD_length] at k4
  rw [List.nil_append] at k1
  exact ⟨pool, S3, ⟨fun e => by subst e; simp at k4; omega, by omega, hx⟩, k3.mono (by rw [rangeD_length]; omega), k1⟩
theorem law_step {t : Nat} {S : Sto} {ns : List D} {j : Nat} {x2 x3 x4 x5 x6 : Option Slot} (h : Dr t S) (ht : t < 1000000) : ∃ y2 y3 y4 y5 y6 S', Dr (t + 1000) S' ∧ ∀ ds, forL (.nm 2) m_law_1 (.int (j : Nat) :: ds) (envQ ns x2 x3 x4 x5 x6) S = forL (.nm 2) m_law_1 ds (envQ ns y2 y3 y4 y5 y6) S' := by
  obtain ⟨k0, S1, a0, a1, d1, e1⟩ := next_ok (many := 6) h (by omega) (by omega) (by omega)
  obtain ⟨k, rfl⟩ := Int.eq_ofNat_of_zero_le a0
  have rg : range1 [.int ((1 : Int) + (k : Nat))] = some (rangeD 0 (k + 1) 1) := by
    rw [show (1 : Int) + (k : Nat) = ((k + 1 : Nat) : Int) by omega, range1_ok (k + 1) (by omega)]
  obtain ⟨pool, S2, hp, d2, e2⟩ := pool_ok (ns := ns) (x2 := (some (Slot.val (.int (j : Nat))))) (x3 := x3) (x4 := x4) (x5 := x5) (x6 := x6) (k := k + 1) d1 (by omega) (by omega)
  obtain ⟨base, S3, ob, lb, d3, e3⟩ := lines_ok (most := 10) d2 (by omega) hp (by omega)
  have e3 : F__law_lines [.ref 0, .lst (dl pool), .int 10] S2 = _ := e3
  obtain ⟨m1, S4, b0, b1, d4, e4⟩ := next_ok (many := 6) d3 (by omega) (by omega) (by omega)
  obtain ⟨m1, rfl⟩ := Int.eq_ofNat_of_zero_le b0
  obtain ⟨left, S5, ⟨ol, ll⟩, d5, e5⟩ := changed_ok (many := m1) d4 (by omega) hp (by omega) ob (by omega)
  obtain ⟨w0, S6, c0, c1', d6, e6⟩ := next_ok (many := 3) d5 (by omega) (by omega) (by omega)
  obtain ⟨w, rfl⟩ := Int.eq_ofNat_of_zero_le c0
  obtain ⟨src, os, ls, es⟩ : ∃ src : List Str, TxOk src ∧ src.length ≤ 15 ∧ fIx [.lst [.tup (dl base), .tup (dl base), .tup (dl left)], .int (w : Nat)] = some (.tup (dl src)) := by
    have : w = 0 ∨ w = 1 ∨ w = 2 := by omega
    rcases this with rfl | rfl | rfl
    · exact ⟨base, ob, by omega, rfl⟩
    · exact ⟨base, ob, by omega, rfl⟩
    · exact ⟨left, ol.ok, by omega, rfl⟩
  obtain ⟨m2, S7, f0, f1, d7, e7⟩ := next_ok (many := 6) d6 (by omega) (by omega) (by omega)
  obtain ⟨m2, rfl⟩ := Int.eq_ofNat_of_zero_le f0
  obtain ⟨right, S8, ⟨orr, lr⟩, d8, e8⟩ := changed_ok (many := m2) d7 (by omega) hp (by omega) os (by omega)
  obtain ⟨g, S9, g0, g1, d9, e9⟩ := next_ok (many := 6) d8 (by omega) (by omega) (by omega)
  obtain ⟨base2, S10, ob2, lb2, d10, e10⟩ := lines_ok (most := 10) d9 (by omega) hp (by omega)
  have e10 : F__law_lines [.ref 0, .lst (dl pool), .int 10] S9 = _ := e10
  unfold envQ at e2
  by_cases q : (0 : Int) < g
  · have h3 : L3 base left right := ⟨by omega, by omega, by omega, ob, ol.ok, orr.ok⟩
    have h4 : L3 base right left := ⟨by omega, by omega, by omega, ob, orr.ok, ol.ok⟩
    obtain ⟨X, ex⟩ := right_ok h3 S9
    obtain ⟨Y, ey⟩ := right_ok h4 (S9 ++ X)
    refine ⟨(some (Slot.val (.int (j : Nat)))), (some (Slot.val (.lst (dl pool)))), (some (Slot.val (.tup (dl base)))), (some (Slot.val (.tup (dl left)))), (some (Slot.val (.tup (dl right)))), S9 ++ X ++ Y, ((d9.app X).app Y).mono (by omega), fun ds => ?_⟩
    rw [forL]
    simp only [m_law_1, envQ, Int.ofNat_lt, Int.ofNat_le, bind_ok, bind_exc, bind_stuck, sizeLine_eq, fMod_i, fFdiv_i, fMul_i, fMul_i1, fMul_i2, fm0, fm1, fAdd_i, fSub_i, fPow_i, fAdd_l, fAdd_t, fAdd_s, fLt_i, fLe_i, fGt_i, fGe_i, evO, resW, evR, bPrim, bC, bVar, tTru, tBool, tNotB, tAndB, tOrB, bAnd, bOr, bNot, bIf, wIf, evX, bTup, wLst, wPrim, wVal, eFrz, wCall, sOk, sRet, sSet, sIf, sSeq, sDrop, sPar, evW, setAll, Tg.asg, Tg.asgs, mMut, sPutL, bGet, sPutD, wDisp, ePub, bIxL, sPutS, mChk, mInt, D.isStr, D.isInt, D.tru, fLen_l, fLen_t, List.length_map, iVal, itemsD, iRange, plainS, wipeE, backE, wComp, wCompB, List.all_cons, List.all_nil, Slot.isVal, Bool.and_true, Bool.true_and, Bool.and_self, fsem, env0, fill, wMove, Slot.frz, List.getElem?_cons_zero, List.getElem?_cons_succ, List.set_cons_zero, List.set_cons_succ, List.map_cons, List.map_nil, List.cons_append, List.nil_append, List.reduceReplicate, Option.getD_some, List.length_cons, List.length_nil, List.getD_cons_zero, List.getD_cons_succ, Nat.reduceAdd, Nat.reduceSub, Option.map_some, if_true, if_false, ite_true, ite_false, Bool.false_eq_true, reduceIte, Nat.reduceLeDiff, Nat.reduceEqDiff, Int.reduceEq, Int.reduceNe, Int.reduceLT, Int.reduceLE, Int.reduceNeg, Int.reducePow, ne_eq, not_false_eq_true, decide_true, decide_false, true_and, and_true, true_or, or_true, and_self, Bool.not_true, Bool.not_false, reduceCtorEq, e1, rg]
    rw [e2]
    simp only [Int.ofNat_lt, Int.ofNat_le, bind_ok, bind_exc, bind_stuck, sizeLine_eq, fMod_i, fFdiv_i, fMul_i, fMul_i1, fMul_i2, fm0, fm1, fAdd_i, fSub_i, fPow_i, fAdd_l, fAdd_t, fAdd_s, fLt_i, fLe_i, fGt_i, fGe_i, evO, resW, evR, bPrim, bC, bVar, tTru, tBool, tNotB, tAndB, tOrB, bAnd, bOr, bNot, bIf, wIf, evX, bTup, wLst, wPrim, wVal, eFrz, wCall, sOk, sRet, sSet, sIf, sSeq, sDrop, sPar, evW, setAll, Tg.asg, Tg.asgs, mMut, sPutL, bGet, sPutD, wDisp, ePub, bIxL, sPutS, mChk, mInt, D.isStr, D.isInt, D.tru, fLen_l, fLen_t, List.length_map, iVal, itemsD, iRange, plainS, wipeE, backE, wComp, wCompB, List.all_cons, List.all_nil, Slot.isVal, Bool.and_true, Bool.true_and, Bool.and_self, fsem, env0, fill, wMove, Slot.frz, List.getElem?_cons_zero, List.getElem?_cons_succ, List.set_cons_zero, List.set_cons_succ, List.map_cons, List.map_nil, List.cons_append, List.nil_append, List.reduceReplicate, Option.getD_some, List.length_cons, List.length_nil, List.getD_cons_zero, List.getD_cons_succ, Nat.reduceAdd, Nat.reduceSub, Option.map_some, if_true, if_false, ite_true, ite_false, Bool.false_eq_true, reduceIte, Nat.reduceLeDiff, Nat.reduceEqDiff, Int.reduceEq, Int.reduceNe, Int.reduceLT, Int.reduceLE, Int.reduceNeg, Int.reducePow, ne_eq, not_false_eq_true, decide_true, decide_false, true_and, and_true, true_or, or_true, and_self, Bool.not_true, Bool.not_false, reduceCtorEq, e3, e4, e5, e6, es, e7, e8, e9, q, ex, ey]
  · have h3 : L3 base left base2 := ⟨by omega, by omega, by omega, ob, ol.ok, ob2⟩
    have h4 : L3 base base2 left := ⟨by omega, by omega, by omega, ob, ob2, ol.ok⟩
    obtain ⟨X, ex⟩ := right_ok h3 S10
    obtain ⟨Y, ey⟩ := right_ok h4 (S10 ++ X)
    refine ⟨(some (Slot.val (.int (j : Nat)))), (some (Slot.val (.lst (dl pool)))), (some (Slot.val (.tup (dl base)))), (some (Slot.val (.tup (dl left)))), (some (Slot.val (.tup (dl base2)))), S10 ++ X ++ Y, ((d10.app X).app Y).mono (by omega), fun ds => ?_⟩
    rw [forL]
    simp only [m_law_1, envQ, Int.ofNat_lt, Int.ofNat_le, bind_ok, bind_exc, bind_stuck, sizeLine_eq, fMod_i, fFdiv_i, fMul_i, fMul_i1, fMul_i2, fm0, fm1, fAdd_i, fSub_i, fPow_i, fAdd_l, fAdd_t, fAdd_s, fLt_i, fLe_i, fGt_i, fGe_i, evO, resW, evR, bPrim, bC, bVar, tTru, tBool, tNotB, tAndB, tOrB, bAnd, bOr, bNot, bIf, wIf, evX, bTup, wLst, wPrim, wVal, eFrz, wCall, sOk, sRet, sSet, sIf, sSeq, sDrop, sPar, evW, setAll, Tg.asg, Tg.asgs, mMut, sPutL, bGet, sPutD, wDisp, ePub, bIxL, sPutS, mChk, mInt, D.isStr, D.isInt, D.tru, fLen_l, fLen_t, List.length_map, iVal, itemsD, iRange, plainS, wipeE, backE, wComp, wCompB, List.all_cons, List.all_nil, Slot.isVal, Bool.and_true, Bool.true_and, Bool.and_self, fsem, env0, fill, wMove, Slot.frz, List.getElem?_cons_zero, List.getElem?_cons_succ, List.set_cons_zero, List.set_cons_succ, List.map_cons, List.map_nil, List.cons_append, List.nil_append, List.reduceReplicate, Option.getD_some, List.length_cons, List.length_nil, List.getD_cons_zero, List.getD_cons_succ, Nat.reduceAdd, Nat.reduceSub, Option.map_some, if_true, if_false, ite_true, ite_false, Bool.false_eq_true, reduceIte, Nat.reduceLeDiff, Nat.reduceEqDiff, Int.reduceEq, Int.reduceNe, Int.reduceLT, Int.reduceLE, Int.reduceNeg, Int.reducePow, ne_eq, not_false_eq_true, decide_true, decide_false, true_and, and_true, true_or, or_true, and_self, Bool.not_true, Bool.not_false, reduceCtorEq, e1, rg]
    rw [e2]
    simp only [Int.ofNat_lt, Int.ofNat_le, bind_ok, bind_exc, bind_stuck, sizeLine_eq, fMod_i, fFdiv_i, fMul_i, fMul_i1, fMul_i2, fm0, fm1, fAdd_i, fSub_i, fPow_i, fAdd_l, fAdd_t, fAdd_s, fLt_i, fLe_i, fGt_i, fGe_i, evO, resW, evR, bPrim, bC, bVar, tTru, tBool, tNotB, tAndB, tOrB, bAnd, bOr, bNot, bIf, wIf, evX, bTup, wLst, wPrim, wVal, eFrz, wCall, sOk, sRet, sSet, sIf, sSeq, sDrop, sPar, evW, setAll, Tg.asg, Tg.asgs, mMut, sPutL, bGet, sPutD, wDisp, ePub, bIxL, sPutS, mChk, mInt, D.isStr, D.isInt, D.tru, fLen_l, fLen_t, List.length_map, iVal, itemsD, iRange, plainS, wipeE, backE, wComp, wCompB, List.all_cons, List.all_nil, Slot.isVal, Bool.and_true, Bool.true_and, Bool.and_self, fsem, env0, fill, wMove, Slot.frz, List.getElem?_cons_zero, List.getElem?_cons_succ, List.set_cons_zero, List.set_cons_succ, List.map_cons, List.map_nil, List.cons_append, List.nil_append, List.reduceReplicate, Option.getD_some, List.length_cons, List.length_nil, List.getD_cons_zero, List.getD_cons_succ, Nat.reduceAdd, Nat.reduceSub, Option.map_some, if_true, if_false, ite_true, ite_false, Bool.false_eq_true, reduceIte, Nat.reduceLeDiff, Nat.reduceEqDiff, Int.reduceEq, Int.reduceNe, Int.reduceLT, Int.reduceLE, Int.reduceNeg, Int.reducePow, ne_eq, not_false_eq_true, decide_true, decide_false, true_and, and_true, true_or, or_true, and_self, Bool.not_true, Bool.not_false, reduceCtorEq, e3, e4, e5, e6, es, e7, e8, e9, q, e10, ex, ey]
theorem law_ok (ns : List Int) (hn : ns.length ≤ 63) : ∃ S, F_law [.lst (ns.map .int)] [] = .ok (.val (.bl true)) [] S := by
  have r1 : range1 [.int 4] = some (rangeD 0 4 1) := range1_ok 4 (by omega)
  obtain ⟨e', S', h1, x2, x3, x4, x5, x6, h2, rfl⟩ := forL_rng (t := .nm 2) (m := m_law_1) (fun j e S' => ∃ x2 x3 x4 x5 x6, Dr (1000 * j) S' ∧ e = envQ (ns.map .int) x2 x3 x4 x5 x6) (g := fun i => .int (i : Nat)) 4 0 (envQ (ns.map .int) none none none none none) [.dict (drKv (ns ++ [0]) 0 0 0)] ⟨_, _, _, _, _, Dr.begin ns hn, rfl⟩ fun j _ hj e S' hI => by
    obtain ⟨x2, x3, x4, x5, x6, k1, rfl⟩ := hI
    obtain ⟨y2, y3, y4, y5, y6, S2, m1, m2⟩ := law_step (ns := ns.map .int) (j := j) (x2 := x2) (x3 := x3) (x4 := x4) (x5 := x5) (x6 := x6) k1 (by omega)
    exact ⟨_, S2, m2, y2, y3, y4, y5, y6, m1.mono (by omega), rfl⟩
  rw [← rangeD_up] at h1
  refine ⟨S', ?_⟩
  have b := begin_ok ns hn
  unfold envQ at h1
  simp only [F_law, m_law, Int.ofNat_lt, Int.ofNat_le, bind_ok, bind_exc, bind_stuck, sizeLine_eq, fMod_i, fFdiv_i, fMul_i, fMul_i1, fMul_i2, fm0, fm1, fAdd_i, fSub_i, fPow_i, fAdd_l, fAdd_t, fAdd_s, fLt_i, fLe_i, fGt_i, fGe_i, evO, resW, evR, bPrim, bC, bVar, tTru, tBool, tNotB, tAndB, tOrB, bAnd, bOr, bNot, bIf, wIf, evX, bTup, wLst, wPrim, wVal, eFrz, wCall, sOk, sRet, sSet, sIf, sSeq, sDrop, sPar, evW, setAll, Tg.asg, Tg.asgs, mMut, sPutL, bGet, sPutD, wDisp, ePub, bIxL, sPutS, mChk, mInt, D.isStr, D.isInt, D.tru, fLen_l, fLen_t, List.length_map, iVal, itemsD, iRange, plainS, wipeE, backE, wComp, wCompB, List.all_cons, List.all_nil, Slot.isVal, Bool.and_true, Bool.true_and, Bool.and_self, fsem, env0, fill, wMove, Slot.frz, List.getElem?_cons_zero, List.getElem?_cons_succ, List.set_cons_zero, List.set_cons_succ, List.map_cons, List.map_nil, List.cons_append, List.nil_append, List.reduceReplicate, Option.getD_some, List.length_cons, List.length_nil, List.getD_cons_zero, List.getD_cons_succ, Nat.reduceAdd, Nat.reduceSub, Option.map_some, if_true, if_false, ite_true, ite_false, Bool.false_eq_true, reduceIte, Nat.reduceLeDiff, Nat.reduceEqDiff, Int.reduceEq, Int.reduceNe, Int.reduceLT, Int.reduceLE, Int.reduceNeg, Int.reducePow, ne_eq, not_false_eq_true, decide_true, decide_false, true_and, and_true, true_or, or_true, and_self, Bool.not_true, Bool.not_false, reduceCtorEq, b, r1, sFor]
  rw [h1]
  simp only [Int.ofNat_lt, Int.ofNat_le, bind_ok, bind_exc, bind_stuck, sizeLine_eq, fMod_i, fFdiv_i, fMul_i, fMul_i1, fMul_i2, fm0, fm1, fAdd_i, fSub_i, fPow_i, fAdd_l, fAdd_t, fAdd_s, fLt_i, fLe_i, fGt_i, fGe_i, evO, resW, evR, bPrim, bC, bVar, tTru, tBool, tNotB, tAndB, tOrB, bAnd, bOr, bNot, bIf, wIf, evX, bTup, wLst, wPrim, wVal, eFrz, wCall, sOk, sRet, sSet, sIf, sSeq, sDrop, sPar, evW, setAll, Tg.asg, Tg.asgs, mMut, sPutL, bGet, sPutD, wDisp, ePub, bIxL, sPutS, mChk, mInt, D.isStr, D.isInt, D.tru, fLen_l, fLen_t, List.length_map, iVal, itemsD, iRange, plainS, wipeE, backE, wComp, wCompB, List.all_cons, List.all_nil, Slot.isVal, Bool.and_true, Bool.true_and, Bool.and_self, fsem, env0, fill, wMove, Slot.frz, List.getElem?_cons_zero, List.getElem?_cons_succ, List.set_cons_zero, List.set_cons_succ, List.map_cons, List.map_nil, List.cons_append, List.nil_append, List.reduceReplicate, Option.getD_some, List.length_cons, List.length_nil, List.getD_cons_zero, List.getD_cons_succ, Nat.reduceAdd, Nat.reduceSub, Option.map_some, if_true, if_false, ite_true, ite_false, Bool.false_eq_true, reduceIte, Nat.reduceLeDiff, Nat.reduceEqDiff, Int.reduceEq, Int.reduceNe, Int.reduceLT, Int.reduceLE, Int.reduceNeg, Int.reducePow, ne_eq, not_false_eq_true, decide_true, decide_false, true_and, and_true, true_or, or_true, and_self, Bool.not_true, Bool.not_false, reduceCtorEq]
end TM.K15
open PySem PySem.W PyProof.Rows
open TM TM.K15
set_option maxRecDepth 100000 in
set_option maxHeartbeats 0 in
theorem PySem.Challenge.cw_treemerge_k15_parts_of_a_merge_holds : PySem.Challenge.rw_treemerge_k15_parts_of_a_merge.Holds := by
  w_on; o_law; k_head; (case hw => w_witness2)
  k_fill
  refine law_walk (l := PySem.Challenge.rw_treemerge_k15_parts_of_a_merge) (n := 63) (k := 7) (x := "script") (sem := F_law) rfl (by decide) rfl ⟨rfl, by decide, by decide⟩ (fun w h Y => PySem.W.kIn_of Y) ?F law_ok
  case F =>
    intro w mg fa h KX G hmg
    refine' all_of KX G hmg ?x1__law_begin ?x2__law_begin ?x3__law_begin ?x4__law_begin ?x1__law_mixed ?x2__law_mixed ?x3__law_mixed ?x4__law_mixed ?x1__law_next ?x2__law_next ?x3__law_next ?x4__law_next ?x1__law_line ?x2__law_line ?x3__law_line ?x4__law_line ?x1__law_lines ?x2__law_lines ?x3__law_lines ?x4__law_lines ?x1__law_changed ?x2__law_changed ?x3__law_changed ?x4__law_changed ?x1__law_table ?x2__law_table ?x3__law_table ?x4__law_table ?x1__law_row ?x2__law_row ?x3__law_row ?x4__law_row ?x1__law_stays ?x2__law_stays ?x3__law_stays ?x4__law_stays ?x1__law_parts ?x2__law_parts ?x3__law_parts ?x4__law_parts ?x1_is_lines ?x2_is_lines ?x3_is_lines ?x4_is_lines ?x1_need_lines ?x2_need_lines ?x3_need_lines ?x4_need_lines ?x1_longest ?x2_longest ?x3_longest ?x4_longest ?x1_alike ?x2_alike ?x3_alike ?x4_alike ?x1_row_of ?x2_row_of ?x3_row_of ?x4_row_of ?x1_parts_by ?x2_parts_by ?x3_parts_by ?x4_parts_by ?x1_parts_of ?x2_parts_of ?x3_parts_of ?x4_parts_of ?x1__law_side ?x2__law_side ?x3__law_side ?x4__law_side ?x1_comes_of ?x2_comes_of ?x3_comes_of ?x4_comes_of ?x1_clashes ?x2_clashes ?x3_clashes ?x4_clashes ?x1__law_right ?x2__law_right ?x3__law_right ?x4__law_right ?x1_law ?x2_law ?x3_law ?x4_law ?z_len ?z_range ?z_tuple ?z_list ?z_max ?z_isinstance ?z_str ?z_all ?z_enumerate ?z_dict ?z_repr ?v_MOST_LINES ?v_MOST_SIGNS
    (case x1__law_begin => k_is)
    (case x2__law_begin => k_is)
    (case x3__law_begin => k_is)
    (case x4__law_begin => k_is)
    (case x1__law_mixed => k_is)
    (case x2__law_mixed => k_is)
    (case x3__law_mixed => k_is)
    (case x4__law_mixed => k_is)
    (case x1__law_next => k_is)
    (case x2__law_next => k_is)
    (case x3__law_next => k_is)
    (case x4__law_next => k_is)
    (case x1__law_line => k_is)
    (case x2__law_line => k_is)
    (case x3__law_line => k_is)
    (case x4__law_line => k_is)
    (case x1__law_lines => k_is)
    (case x2__law_lines => k_is)
    (case x3__law_lines => k_is)
    (case x4__law_lines => k_is)
    (case x1__law_changed => k_is)
    (case x2__law_changed => k_is)
    (case x3__law_changed => k_is)
    (case x4__law_changed => k_is)
    (case x1__law_table => k_is)
    (case x2__law_table => k_is)
    (case x3__law_table => k_is)
    (case x4__law_table => k_is)
    (case x1__law_row => k_is)
    (case x2__law_row => k_is)
    (case x3__law_row => k_is)
    (case x4__law_row => k_is)
    (case x1__law_stays => k_is)
    (case x2__law_stays => k_is)
    (case x3__law_stays => k_is)
    (case x4__law_stays => k_is)
    (case x1__law_parts => k_is)
    (case x2__law_parts => k_is)
    (case x3__law_parts => k_is)
    (case x4__law_parts => k_is)
    (case x1_is_lines => k_is)
    (case x2_is_lines => k_is)
    (case x3_is_lines => k_is)
    (case x4_is_lines => k_is)
    (case x1_need_lines => k_is)
    (case x2_need_lines => k_is)
    (case x3_need_lines => k_is)
    (case x4_need_lines => k_is)
    (case x1_longest => k_is)
    (case x2_longest => k_is)
    (case x3_longest => k_is)
    (case x4_longest => k_is)
    (case x1_alike => k_is)
    (case x2_alike => k_is)
    (case x3_alike => k_is)
    (case x4_alike => k_is)
    (case x1_row_of => k_is)
    (case x2_row_of => k_is)
    (case x3_row_of => k_is)
    (case x4_row_of => k_is)
    (case x1_parts_by => k_is)
    (case x2_parts_by => k_is)
    (case x3_parts_by => k_is)
    (case x4_parts_by => k_is)
    (case x1_parts_of => k_is)
    (case x2_parts_of => k_is)
    (case x3_parts_of => k_is)
    (case x4_parts_of => k_is)
    (case x1__law_side => k_is)
    (case x2__law_side => k_is)
    (case x3__law_side => k_is)
    (case x4__law_side => k_is)
    (case x1_comes_of => k_is)
    (case x2_comes_of => k_is)
    (case x3_comes_of => k_is)
    (case x4_comes_of => k_is)
    (case x1_clashes => k_is)
    (case x2_clashes => k_is)
    (case x3_clashes => k_is)
    (case x4_clashes => k_is)
    (case x1__law_right => k_is)
    (case x2__law_right => k_is)
    (case x3__law_right => k_is)
    (case x4__law_right => k_is)
    (case x1_law => k_is)
    (case x2_law => k_is)
    (case x3_law => k_is)
    (case x4_law => k_is)
    (case z_len => k_is)
    (case z_range => k_is)
    (case z_tuple => k_is)
    (case z_list => k_is)
    (case z_max => k_is)
    (case z_isinstance => k_is)
    (case z_str => k_is)
    (case z_all => k_is)
    (case z_enumerate => k_is)
    (case z_dict => k_is)
    (case z_repr => k_is)
    (case v_MOST_LINES => k_is)
    (case v_MOST_SIGNS => k_is)
