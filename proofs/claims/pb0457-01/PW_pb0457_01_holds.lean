import PyProof.Rows.All
import KE.KLcTest
import KE.KIntText
import KE.KTryDeepN
import Wide.FinOn
import OpenK.AllK
import Wide.All
import Lean
import PySem.Challenge.RW_pb0457_01
set_option Elab.async false
set_option autoImplicit false
set_option linter.all false
set_option maxRecDepth 100000
open PySem PySem.W PySem.Spec PySem.Calls PyProof.Rows
section
namespace Mine
structure GW where
  prog : Program
  w : World
  K : Frag
  p : Program
  loose : List Str
  mean : ExcName → Option Value
  mg : Str → Option Value
  mb : Str → Option Value
  sa : Addr
  ns : List Int
inductive BI where
  | len | ord | min | max | str | int | isinstance | range
noncomputable def BI.val : BI → Value
  | .len => .builtin "len" | .ord => .builtin "ord" | .min => .builtin "min" | .max => .builtin "max"
  | .str => .type "str" | .int => .type "int" | .isinstance => .builtin "isinstance" | .range => .type "range"
inductive PV where
  | none
  | bool (b : Bool)
  | int (i : Int)
  | str (s : Str)
  | tup (xs : List PV)
  | lst (xs : List PV)
  | inst (C : Addr) (fs : List (Nat × PV))
  | top (a : Addr)
  | blt (b : BI)
  | scr
inductive AV where
  | pv (p : PV)
  | mut (i : Nat)
  | rd (i : Nat)
inductive MO where
  | inst (C : Addr) (fs : List (Nat × AV))
  | lst (xs : List PV)
noncomputable def fieldNames : List String := ["kind","text","value","place","found","greatest","words","at","depth","stream","name","message"]
noncomputable def nm (c : Nat) : Str := Str.ofString (fieldNames.getD c "")
theorem nm_eq : ∀ c,c < 12 → ∀ c',c' < 12 → (nm c == nm c') = (c == c') := by decide +kernel
theorem nm_eq' {c c' : Nat} (h : c < 12) (h' : c' < 12) : (nm c == nm c') = (c == c') := nm_eq c h c' h'
noncomputable abbrev Led0 := List (Addr × Obj)
noncomputable abbrev tupObj (vs : List Value) (n : Nat) : Obj := { cls := .type "tuple",data := .seq vs.toArray n }
mutual
noncomputable def PR (g : GW) (im : Led0) : PV → Value → Prop
  | .none,v => v = .none
  | .bool b,v => v = .bool b
  | .int i,v => ∃ t,v = .int i t
  | .str s,v => ∃ t,v = .str s t
  | .tup xs,v => ∃ a vs n,v = .ref a ∧ (a,tupObj vs n) ∈ im ∧ PRs g im xs vs
  | .lst xs,v => ∃ a vs n,v = .ref a ∧ (a,W.listOf vs.toArray n) ∈ im ∧ PRs g im xs vs
  | .inst C fs,v => ∃ a dx es n,v = .ref a ∧ (a,instObj C dx) ∈ im ∧ (dx,dictOf es n) ∈ im ∧ PRf g im fs es
  | .top a,v => v = .ref a
  | .blt b,v => v = b.val
  | .scr,v => v = .ref g.sa
noncomputable def PRs (g : GW) (im : Led0) : List PV → List Value → Prop
  | [],vs => vs = []
  | x :: xs,vs => ∃ v r,vs = v :: r ∧ PR g im x v ∧ PRs g im xs r
noncomputable def PRf (g : GW) (im : Led0) : List (Nat × PV) → List DictEntry → Prop
  | [],es => es = []
  | (c,x) :: fs,es => ∃ v t r,es = ⟨PyData.keyHash g.w.params (nm c),.str (nm c) t,v⟩ :: r ∧ c < 12 ∧ PR g im x v ∧ PRf g im fs r
end
noncomputable def Sub (l l' : Led0) : Prop := ∀ p ∈ l,p ∈ l'
theorem Sub.refl {l : Led0} : Sub l l := fun _ h => h
theorem Sub.trans {a b c : Led0} (h : Sub a b) (h' : Sub b c) : Sub a c := fun p hp => h' p (h p hp)
mutual
theorem PR.mono {g : GW} {im im' : Led0} (h : Sub im im') : ∀ {p : PV} {v : Value},PR g im p v → PR g im' p v
  | .none,_,e => e
  | .bool _,_,e => e
  | .int _,_,e => e
  | .str _,_,e => e
  | .tup _,_,⟨a,vs,n,e,hm,hr⟩ => ⟨a,vs,n,e,h _ hm,PRs.mono h hr⟩
  | .lst _,_,⟨a,vs,n,e,hm,hr⟩ => ⟨a,vs,n,e,h _ hm,PRs.mono h hr⟩
  | .inst _ _,_,⟨a,dx,es,n,e,h1,h2,hr⟩ => ⟨a,dx,es,n,e,h _ h1,h _ h2,PRf.mono h hr⟩
  | .top _,_,e => e
  | .blt _,_,e => e
  | .scr,_,e => e
theorem PRs.mono {g : GW} {im im' : Led0} (h : Sub im im') : ∀ {ps : List PV} {vs : List Value},PRs g im ps vs → PRs g im' ps vs
  | [],_,e => e
  | _ :: _,_,⟨v,r,e,h1,h2⟩ => ⟨v,r,e,PR.mono h h1,PRs.mono h h2⟩
theorem PRf.mono {g : GW} {im im' : Led0} (h : Sub im im') : ∀ {fs : List (Nat × PV)} {es : List DictEntry},PRf g im fs es → PRf g im' fs es
  | [],_,e => e
  | (_,_) :: _,_,⟨v,t,r,e,hc,h1,h2⟩ => ⟨v,t,r,e,hc,PR.mono h h1,PRf.mono h h2⟩
end
noncomputable def AR (g : GW) (im : Led0) (η : List Addr) : AV → Value → Prop
  | .pv p,v => PR g im p v
  | .mut i,v => ∃ a,η[i]? = some a ∧ v = .ref a
  | .rd i,v => ∃ a dx b t n,v = .ref a ∧ (a,instObj 263 dx) ∈ im ∧ (dx,dictOf [⟨PyData.keyHash g.w.params (nm 9),.str (nm 9) t,.ref b⟩] n) ∈ im ∧ η[i]? = some b
noncomputable def ARs (g : GW) (im : Led0) (η : List Addr) : List AV → List Value → Prop
  | [],vs => vs = []
  | x :: xs,vs => ∃ v r,vs = v :: r ∧ AR g im η x v ∧ ARs g im η xs r
noncomputable def ARf (g : GW) (im : Led0) (η : List Addr) : List (Nat × AV) → List DictEntry → Prop
  | [],es => es = []
  | (c,x) :: fs,es => ∃ v t r,es = ⟨PyData.keyHash g.w.params (nm c),.str (nm c) t,v⟩ :: r ∧ c < 12 ∧ AR g im η x v ∧ ARf g im η fs r
noncomputable def Pre (η η' : List Addr) : Prop := ∀ (i : Nat) (a : Addr),η[i]? = some a → η'[i]? = some a
theorem Pre.refl {η : List Addr} : Pre η η := fun _ _ h => h
theorem Pre.trans {a b c : List Addr} (h : Pre a b) (h' : Pre b c) : Pre a c := fun i x e => h' i x (h i x e)
theorem Pre.app {η ext : List Addr} : Pre η (η ++ ext) := fun i a h => by
  have : i < η.length := (List.getElem?_eq_some_iff.mp h).1
  rw [List.getElem?_append_left this]; exact h
theorem AR.mono {g : GW} {im im' : Led0} {η η' : List Addr} (h : Sub im im') (hp : Pre η η') : ∀ {x : AV} {v : Value},AR g im η x v → AR g im' η' x v
  | .pv _,_,e => PR.mono h e
  | .mut _,_,⟨a,e,h2⟩ => ⟨a,hp _ _ e,h2⟩
  | .rd _,_,⟨a,dx,b,t,n,e,h1,h2,h3⟩ => ⟨a,dx,b,t,n,e,h _ h1,h _ h2,hp _ _ h3⟩
theorem ARs.mono {g : GW} {im im' : Led0} {η η' : List Addr} (h : Sub im im') (hp : Pre η η') : ∀ {xs : List AV} {vs : List Value},ARs g im η xs vs → ARs g im' η' xs vs
  | [],_,e => e
  | _ :: _,_,⟨v,r,e,h1,h2⟩ => ⟨v,r,e,h1.mono h hp,ARs.mono h hp h2⟩
theorem ARf.mono {g : GW} {im im' : Led0} {η η' : List Addr} (h : Sub im im') (hp : Pre η η') : ∀ {fs : List (Nat × AV)} {es : List DictEntry},ARf g im η fs es → ARf g im' η' fs es
  | [],_,e => e
  | (_,_) :: _,_,⟨v,t,r,e,hc,h1,h2⟩ => ⟨v,t,r,e,hc,h1.mono h hp,ARf.mono h hp h2⟩
inductive Cell where
  | inst (a C dx : Addr) (es : List DictEntry) (n : Nat)
  | lst (a : Addr) (vs : List Value) (n : Nat)
noncomputable def Cell.addr : Cell → Addr
  | .inst a .. => a
  | .lst a .. => a
noncomputable def Cell.objs : Cell → Led0
  | .inst a C dx es n => [(a,instObj C dx),(dx,dictOf es n)]
  | .lst a vs n => [(a,W.listOf vs.toArray n)]
noncomputable def MR (g : GW) (im : Led0) (η : List Addr) : MO → Cell → Prop
  | .inst C fs,.inst _ C' _ es _ => C = C' ∧ es.length ≤ 900 ∧ ARf g im η fs es
  | .lst xs,.lst _ vs _ => PRs g im xs vs
  | _,_ => False
noncomputable def MRs (g : GW) (im : Led0) (η : List Addr) : List MO → List Cell → Prop
  | [],cs => cs = []
  | o :: os,cs => ∃ c r,cs = c :: r ∧ MR g im η o c ∧ MRs g im η os r
theorem MR.mono {g : GW} {im im' : Led0} {η η' : List Addr} (h : Sub im im') (hp : Pre η η') : ∀ {o : MO} {c : Cell},MR g im η o c → MR g im' η' o c
  | .inst _ _,.inst ..,⟨h1,h2,h3⟩ => ⟨h1,h2,h3.mono h hp⟩
  | .lst _,.lst ..,h1 => PRs.mono h h1
theorem MRs.mono {g : GW} {im im' : Led0} {η η' : List Addr} (h : Sub im im') (hp : Pre η η') : ∀ {os : List MO} {cs : List Cell},MRs g im η os cs → MRs g im' η' os cs
  | [],_,e => e
  | _ :: _,_,⟨c,r,e,h1,h2⟩ => ⟨c,r,e,h1.mono h hp,MRs.mono h hp h2⟩
theorem MRs.length {g : GW} {im : Led0} {η : List Addr} : ∀ {os : List MO} {cs : List Cell},MRs g im η os cs → os.length = cs.length
  | [],_,e => by rw [e]; rfl
  | _ :: _,_,⟨c,r,e,_,h2⟩ => by rw [e,List.length_cons,List.length_cons,h2.length]
theorem MRs.get {g : GW} {im : Led0} {η : List Addr} : ∀ {os : List MO} {cs : List Cell} {i : Nat} {o : MO},MRs g im η os cs → os[i]? = some o → ∃ c,cs[i]? = some c ∧ MR g im η o c
  | _ :: _,_,0,_,⟨c,r,e,h1,_⟩,h => by cases h; exact ⟨c,by rw [e]; rfl,h1⟩
  | _ :: _,_,i + 1,_,⟨c,r,e,_,h2⟩,h => by
    obtain ⟨c',hc',hm⟩ := MRs.get (i := i) h2 (by simpa using h)
    exact ⟨c',by rw [e]; simpa using hc',hm⟩
theorem MRs.set {g : GW} {im : Led0} {η : List Addr} {c : Cell} {o : MO} (hm : MR g im η o c) : ∀ {os : List MO} {cs : List Cell} {i : Nat},MRs g im η os cs → MRs g im η (os.set i o) (cs.set i c)
  | [],_,_,e => by subst e; rfl
  | _ :: _,_,0,⟨c',r,e,_,h2⟩ => by subst e; exact ⟨c,r,rfl,hm,h2⟩
  | _ :: _,_,i + 1,⟨c',r,e,h1,h2⟩ => by subst e; exact ⟨c',r.set i c,rfl,h1,MRs.set hm h2⟩
theorem MRs.append {g : GW} {im : Led0} {η : List Addr} {c : Cell} {o : MO} (hm : MR g im η o c) : ∀ {os : List MO} {cs : List Cell},MRs g im η os cs → MRs g im η (os ++ [o]) (cs ++ [c])
  | [],_,e => by subst e; exact ⟨c,[],rfl,hm,rfl⟩
  | _ :: _,_,⟨c',r,e,h1,h2⟩ => by subst e; exact ⟨c',r ++ [c],rfl,h1,MRs.append hm h2⟩
noncomputable def cobjs (cs : List Cell) : Led0 := cs.flatMap Cell.objs
noncomputable def caddr (cs : List Cell) : List Addr := cs.map Cell.addr
theorem cobjs_cons {c : Cell} {cs : List Cell} : cobjs (c :: cs) = c.objs ++ cobjs cs := rfl
theorem cobjs_append {cs cs' : List Cell} : cobjs (cs ++ cs') = cobjs cs ++ cobjs cs' := List.flatMap_append
theorem cobjs_nil : cobjs [] = [] := rfl
structure Led (g : GW) (h₀ : Heap) (L : Addr) (h : Heap) (μ : List MO) (cs : List Cell) (im fz : Led0) : Prop where
  N : News h₀ L h (cobjs cs ++ (im ++ fz))
  nd : ((cobjs cs).map (·.1)).Nodup
  dj : ∀ p ∈ cobjs cs,∀ q ∈ im ++ fz,p.1 ≠ q.1
  df : ∀ p ∈ im,∀ q ∈ fz,p.1 ≠ q.1
  R : MRs g im (caddr cs) μ cs
end Mine
end
section
namespace Mine
theorem upd_split {d : Addr} {o o' : Obj} {B : Led0} (hB : ∀ p ∈ B,p.1 ≠ d) : ∀ {A : Led0},(∀ p ∈ A,p.1 ≠ d) → Upd d o o' (A ++ (d,o) :: B) (A ++ (d,o') :: B)
  | [],_ => .head hB
  | p :: A,h => .tail (h p (.head _)) (upd_split hB fun q hq => h q (.tail _ hq))
theorem split_at {α : Type} : ∀ {l : List α} {i : Nat} {c : α},l[i]? = some c → ∃ l1 l2,l = l1 ++ c :: l2 ∧ ∀ c',l.set i c' = l1 ++ c' :: l2
  | x :: l,0,c,h => by
    cases h
    exact ⟨[],l,rfl,fun _ => rfl⟩
  | x :: l,i + 1,c,h => by
    obtain ⟨l1,l2,e,hs⟩ := split_at (l := l) (i := i) (c := c) (by simpa using h)
    exact ⟨x :: l1,l2,by rw [e]; rfl,fun c' => by rw [List.set_cons_succ,hs]; rfl⟩
theorem upd_cell {cs : List Cell} {im : Led0} {i : Nat} {c c' : Cell} {d : Addr} {o o' : Obj} {pre post : Led0} (hc : cs[i]? = some c)
    (e : c.objs = pre ++ (d,o) :: post) (e' : c'.objs = pre ++ (d,o') :: post) (nd : ((cobjs cs).map (·.1)).Nodup) (dj : ∀ p ∈ cobjs cs,∀ q ∈ im,p.1 ≠ q.1) :
    Upd d o o' (cobjs cs ++ im) (cobjs (cs.set i c') ++ im) := by
  obtain ⟨l1,l2,rfl,hs⟩ := split_at hc
  rw [hs]
  have x : ∀ c'' : Cell,∀ o'' : Obj,c''.objs = pre ++ (d,o'') :: post → cobjs (l1 ++ c'' :: l2) ++ im = (cobjs l1 ++ pre) ++ (d,o'') :: (post ++ (cobjs l2 ++ im)) := fun c'' o'' h => by
    rw [cobjs_append,cobjs_cons,h]; simp
  have y : cobjs (l1 ++ c :: l2) = (cobjs l1 ++ pre) ++ (d,o) :: (post ++ cobjs l2) := by rw [cobjs_append,cobjs_cons,e]; simp
  rw [x c o e,x c' o' e']
  rw [y] at nd dj
  rw [List.map_append,List.map_cons] at nd
  have nd' := List.nodup_append.mp nd
  refine upd_split ?_ ?_
  · intro p hp
    rcases List.mem_append.mp hp with hp | hp
    · have := (List.nodup_cons.mp nd'.2.1).1
      exact fun q => this (by have hm := List.mem_map_of_mem (f := fun x : Addr × Obj => x.1) (List.mem_append_left (cobjs l2) hp); rw [q] at hm; exact hm)
    · rcases List.mem_append.mp hp with hp | hp
      · have := (List.nodup_cons.mp nd'.2.1).1
        exact fun q => this (by have hm := List.mem_map_of_mem (f := fun x : Addr × Obj => x.1) (List.mem_append_right post hp); rw [q] at hm; exact hm)
      · exact fun q => dj (d,o) (List.mem_append_right _ (.head _)) p hp q.symm
  · intro p hp q
    exact nd'.2.2 p.1 (List.mem_map_of_mem hp) d (.head _) q
theorem Upd.sub {d : Addr} {o o' : Obj} {l l' : Led0} (h : Upd d o o' l l') : ∀ p ∈ l,p.1 ≠ d → p ∈ l' := by
  induction h with
  | head h => intro p hp hn; rcases List.mem_cons.mp hp with rfl | hp
              · exact absurd rfl hn
              · exact .tail _ hp
  | tail _ _ ih => intro p hp hn; rcases List.mem_cons.mp hp with rfl | hp
                   · exact .head _
                   · exact .tail _ (ih p hp hn)
section
variable {g : GW} {h₀ h h' : Heap} {L : Addr} {μ : List MO} {cs : List Cell} {im fz : Led0}
theorem Led.of_news (D : Led g h₀ L h μ cs im fz) (N : News h₀ L h' (cobjs cs ++ (im ++ fz))) : Led g h₀ L h' μ cs im fz := ⟨N,D.nd,D.dj,D.df,D.R⟩
theorem caddr_set {i : Nat} {c c' : Cell} (hc : cs[i]? = some c) (e : c'.addr = c.addr) : caddr (cs.set i c') = caddr cs := by
  obtain ⟨l1,l2,rfl,hs⟩ := split_at hc
  rw [hs]; unfold caddr; simp [e]
theorem cobjs_set_map {i : Nat} {c c' : Cell} (hc : cs[i]? = some c) (e : c'.objs.map (·.1) = c.objs.map (·.1)) : (cobjs (cs.set i c')).map (·.1) = (cobjs cs).map (·.1) := by
  obtain ⟨l1,l2,rfl,hs⟩ := split_at hc
  rw [hs,cobjs_append,cobjs_append,cobjs_cons,cobjs_cons]; simp [e]
theorem Led.put (D : Led g h₀ L h μ cs im fz) {i : Nat} {c c' : Cell} {o : MO} (hc : cs[i]? = some c) (ea : c'.addr = c.addr) (e : c'.objs.map (·.1) = c.objs.map (·.1))
    (N : News h₀ L h' (cobjs (cs.set i c') ++ (im ++ fz))) (hm : MR g im (caddr cs) o c') : Led g h₀ L h' (μ.set i o) (cs.set i c') im fz := by
  refine ⟨N,by rw [cobjs_set_map hc e]; exact D.nd,fun p hp q hq => ?_,D.df,by rw [caddr_set hc ea]; exact MRs.set hm D.R⟩
  have : p.1 ∈ (cobjs cs).map (·.1) := by rw [← cobjs_set_map hc e]; exact List.mem_map_of_mem hp
  obtain ⟨p',hp',e'⟩ := List.mem_map.mp this
  rw [← e']; exact D.dj p' hp' q hq
theorem Led.im_in (_D : Led g h₀ L h μ cs im fz) {p : Addr × Obj} (hp : p ∈ im) : p ∈ cobjs cs ++ (im ++ fz) := List.mem_append_right _ (List.mem_append_left _ hp)
theorem Led.more (D : Led g h₀ L h μ cs im fz) {a : Addr} {o : Obj} (N : News h₀ L h' ((a,o) :: (cobjs cs ++ (im ++ fz)))) (hlt : ∀ p ∈ cobjs cs ++ (im ++ fz),p.1 ≠ a) : Led g h₀ L h' μ cs ((a,o) :: im) fz := by
  refine ⟨fun p hp => N p ?_,D.nd,fun p hp q hq => ?_,fun p hp q hq => ?_,MRs.mono (fun _ h => .tail _ h) Pre.refl D.R⟩
  · rcases List.mem_append.mp hp with hp | hp
    · exact .tail _ (List.mem_append_left _ hp)
    · rcases List.mem_cons.mp hp with rfl | hp
      · exact .head _
      · exact .tail _ (List.mem_append_right _ hp)
  · rcases List.mem_cons.mp hq with rfl | hq
    · exact hlt p (List.mem_append_left _ hp)
    · exact D.dj p hp q hq
  · rcases List.mem_cons.mp hp with rfl | hp
    · exact fun e => hlt q (List.mem_append_right _ (List.mem_append_right _ hq)) e.symm
    · exact D.df p hp q hq
theorem caddr_app {c : Cell} : caddr (cs ++ [c]) = caddr cs ++ [c.addr] := by unfold caddr; simp
theorem Led.cell (D : Led g h₀ L h μ cs im fz) {c : Cell} {o : MO} (N : News h₀ L h' (c.objs ++ (cobjs cs ++ (im ++ fz)))) (hnd : (c.objs.map (·.1)).Nodup) (hlt : ∀ q ∈ c.objs,∀ p ∈ cobjs cs ++ (im ++ fz),p.1 ≠ q.1)
    (hm : MR g im (caddr cs) o c) : Led g h₀ L h' (μ ++ [o]) (cs ++ [c]) im fz := by
  have e1 : cobjs (cs ++ [c]) = cobjs cs ++ c.objs := by rw [cobjs_append]; unfold cobjs; simp
  refine ⟨fun p hp => N p ?_, ?_,fun p hp q hq => ?_,D.df, ?_⟩
  · rw [e1] at hp
    rcases List.mem_append.mp hp with hp | hp
    · rcases List.mem_append.mp hp with hp | hp
      · exact List.mem_append_right _ (List.mem_append_left _ hp)
      · exact List.mem_append_left _ hp
    · exact List.mem_append_right _ (List.mem_append_right _ hp)
  · rw [e1,List.map_append]
    refine List.nodup_append.mpr ⟨D.nd,hnd,fun x hx y hy e => ?_⟩
    obtain ⟨p,hp,rfl⟩ := List.mem_map.mp hx
    obtain ⟨q,hq,rfl⟩ := List.mem_map.mp hy
    exact hlt q hq p (List.mem_append_left _ hp) e
  · rw [e1] at hp
    rcases List.mem_append.mp hp with hp | hp
    · exact D.dj p hp q hq
    · exact fun e => hlt p hp q (List.mem_append_right _ hq) e.symm
  · rw [caddr_app]
    exact MRs.append (hm.mono Sub.refl Pre.app) (MRs.mono Sub.refl Pre.app D.R)
theorem Led.inst (D : Led g h₀ L h μ cs im fz) {i : Nat} {C : Addr} {fs : List (Nat × AV)} (hi : μ[i]? = some (.inst C fs)) :
    ∃ a dx es n,cs[i]? = some (.inst a C dx es n) ∧ (caddr cs)[i]? = some a ∧ (a,instObj C dx) ∈ cobjs cs ++ (im ++ fz) ∧ (dx,dictOf es n) ∈ cobjs cs ++ (im ++ fz) ∧ es.length ≤ 900 ∧ ARf g im (caddr cs) fs es := by
  obtain ⟨c,hc,hm⟩ := MRs.get D.R hi
  cases c with
  | lst => exact hm.elim
  | inst a C' dx es n =>
    obtain ⟨rfl,hl,hf⟩ := hm
    have hin : ∀ p ∈ (Cell.inst a C dx es n).objs,p ∈ cobjs cs ++ (im ++ fz) := fun p hp => List.mem_append_left _ (List.mem_flatMap.mpr ⟨_,List.mem_of_getElem? hc,hp⟩)
    exact ⟨a,dx,es,n,hc,by unfold caddr; rw [List.getElem?_map,hc]; rfl,hin _ (.head _),hin _ (.tail _ (.head _)),hl,hf⟩
theorem Led.lst (D : Led g h₀ L h μ cs im fz) {i : Nat} {xs : List PV} (hi : μ[i]? = some (.lst xs)) :
    ∃ a vs n,cs[i]? = some (.lst a vs n) ∧ (caddr cs)[i]? = some a ∧ (a,W.listOf vs.toArray n) ∈ cobjs cs ++ (im ++ fz) ∧ PRs g im xs vs := by
  obtain ⟨c,hc,hm⟩ := MRs.get D.R hi
  cases c with
  | inst => exact hm.elim
  | lst a vs n =>
    have hin : ∀ p ∈ (Cell.lst a vs n).objs,p ∈ cobjs cs ++ (im ++ fz) := fun p hp => List.mem_append_left _ (List.mem_flatMap.mpr ⟨_,List.mem_of_getElem? hc,hp⟩)
    exact ⟨a,vs,n,hc,by unfold caddr; rw [List.getElem?_map,hc]; rfl,hin _ (.head _),hm⟩
end
noncomputable def lookF {α : Type} (c : Nat) : List (Nat × α) → Option α
  | [] => none
  | (k,x) :: r => if k == c then some x else lookF c r
noncomputable def putF {α : Type} (c : Nat) (x : α) : List (Nat × α) → List (Nat × α)
  | [] => [(c,x)]
  | (k,y) :: r => if k == c then (k,x) :: r else (k,y) :: putF c x r
section
variable {g : GW} {im : Led0} {η : List Addr}
theorem key_isStr {k c : Nat} (hk : k < 12) (hc : c < 12) (t : Tok) : (Value.str (nm k) t).isStr (nm c) = (k == c) := nm_eq' hk hc
theorem ARf.getL {c : Nat} (hc : c < 12) : ∀ {fs : List (Nat × AV)} {es : List DictEntry},ARf g im η fs es →
    (∀ x,lookF c fs = some x → ∃ v,AR g im η x v ∧ W.getL (nm c) es = some (some v)) ∧ (lookF c fs = none → W.getL (nm c) es = some none)
  | [],es,e => by
    subst e
    exact ⟨fun x h => (nomatch h),fun _ => rfl⟩
  | (k,y) :: fs,es,⟨v,t,r,e,hk,h1,h2⟩ => by
    subst e
    obtain ⟨a,b⟩ := ARf.getL hc h2
    have q := key_isStr hk hc t
    have step : W.getL (nm c) (⟨PyData.keyHash g.w.params (nm k),.str (nm k) t,v⟩ :: r) = if k == c then some (some v) else W.getL (nm c) r := by
      unfold W.getL
      rw [List.find?_cons]
      dsimp only
      rw [q]
      cases (k == c) with
      | true => rfl
      | false => simp [DictEntry.refKey]
    rw [step]
    unfold lookF
    cases k == c with
    | true => exact ⟨fun x h => by cases h; exact ⟨v,h1,rfl⟩,fun h => (nomatch h)⟩
    | false => exact ⟨fun x h => a x h,fun h => b h⟩
theorem ARf.put {c : Nat} (hc : c < 12) {x : AV} {v : Value} (hx : AR g im η x v) {tk : Tok} : ∀ {fs : List (Nat × AV)} {es : List DictEntry},ARf g im η fs es →
    ARf g im η (putF c x fs) (putL (nm c) (PyData.keyHash g.w.params (nm c)) (.str (nm c) tk) v es)
  | [],es,e => by
    subst e
    exact ⟨v,tk,[],rfl,hc,hx,rfl⟩
  | (k,y) :: fs,es,⟨u,t,r,e,hk,h1,h2⟩ => by
    subst e
    have q := key_isStr hk hc t
    unfold putF putL
    dsimp only
    rw [q]
    cases hkc : k == c with
    | true => exact ⟨v,t,r,rfl,hk,hx,h2⟩
    | false => exact ⟨u,t,_,rfl,hk,h1,ARf.put hc hx h2⟩
theorem putL_length (name : Str) (hs : Int) (key v : Value) : ∀ es : List DictEntry,(putL name hs key v es).length ≤ es.length + 1
  | [] => by simp [putL]
  | e :: r => by
    unfold putL
    split
    · simp
    · have := putL_length name hs key v r; simp only [List.length_cons]; omega
theorem PRf.getL {c : Nat} (hc : c < 12) : ∀ {fs : List (Nat × PV)} {es : List DictEntry},PRf g im fs es →
    (∀ x,lookF c fs = some x → ∃ v,PR g im x v ∧ W.getL (nm c) es = some (some v)) ∧ (lookF c fs = none → W.getL (nm c) es = some none)
  | [],es,e => by
    subst e
    exact ⟨fun x h => (nomatch h),fun _ => rfl⟩
  | (k,y) :: fs,es,⟨v,t,r,e,hk,h1,h2⟩ => by
    subst e
    obtain ⟨a,b⟩ := PRf.getL hc h2
    have q := key_isStr hk hc t
    have step : W.getL (nm c) (⟨PyData.keyHash g.w.params (nm k),.str (nm k) t,v⟩ :: r) = if k == c then some (some v) else W.getL (nm c) r := by
      unfold W.getL
      rw [List.find?_cons]
      dsimp only
      rw [q]
      cases (k == c) with
      | true => rfl
      | false => simp [DictEntry.refKey]
    rw [step]
    unfold lookF
    cases k == c with
    | true => exact ⟨fun x h => by cases h; exact ⟨v,h1,rfl⟩,fun h => (nomatch h)⟩
    | false => exact ⟨fun x h => a x h,fun h => b h⟩
end
end Mine
end
section
namespace Mine
structure FI where
  qual : Str
  scope : Scope
  f : Addr
  cdv : Value
  rz : Bool
noncomputable abbrev FI.env (fi : FI) (L : Addr) : Env := envOf fi.qual fi.scope L fi.f fi.cdv
noncomputable def FI.names (fi : FI) : List Str := fi.scope.names.map (·.1)
noncomputable abbrev Loc := List (Option AV)
noncomputable def LR (g : GW) (im : Led0) (η : List Addr) (names : List Str) (loc : Loc) (m : Str → Option Value) : Prop :=
  ∀ (i : Nat) (x : Str) (av : AV),names[i]? = some x → loc[i]? = some (some av) → ∃ v,m x = some v ∧ AR g im η av v
theorem LR.mono {g : GW} {im im' : Led0} {η η' : List Addr} {names : List Str} {loc : Loc} {m : Str → Option Value} (h : LR g im η names loc m) (hs : Sub im im') (hp : Pre η η') : LR g im' η' names loc m :=
  fun i x av h1 h2 => let ⟨v,h3,h4⟩ := h i x av h1 h2; ⟨v,h3,h4.mono hs hp⟩
structure Dyn (g : GW) (d : Nat) (A : Around) (env : Env) (outer : List Env) (base h₀ : Heap) : Prop where
  hh : A.handled = none
  fr : A.frames = some (env :: outer)
  dep : A.depth + 4 * d < 990
  un : A.units + 20 * d < 9000
  B : ∃ A₀,Below A₀ base outer h₀
  X : g.K.In h₀
  T : Top g.p g.loose g.mean g.mg g.mb h₀
  O : env.func = some 739 → outer = []
  S : ∃ vs,h₀.IsList g.sa vs.toArray ∧ IntsAre vs g.ns
  XB : g.K.In base
  TB : Top g.p g.loose g.mean g.mg g.mb base
noncomputable def EXP (base h₀ : Heap) (env : Env) (outer : List Env) (L : Addr) (im fz : Led0) (X : Prop) (Ec : Value → Shared → Prop) (s : Shared) : Prop :=
  ∀ e h' tk' im' hh m',Sub im im' → Fr h₀ L hh m' → hh.UpToSlots h' → RaisedSN base hh (env :: outer) e (.ref 316) (im' ++ fz) h' → X → Ec (.ref e) { s with heap := h',toks := tk' }
theorem EXP.mono {base h₀ : Heap} {env : Env} {outer : List Env} {L : Addr} {im im' fz : Led0} {X : Prop} {Ec : Value → Shared → Prop} {s : Shared} (h : EXP base h₀ env outer L im fz X Ec s) (hs : Sub im im') :
    EXP base h₀ env outer L im' fz X Ec s := fun e h' tk' im'' hh m' h1 => h e h' tk' im'' hh m' (hs.trans h1)
noncomputable def EXN (base h₀ : Heap) (env : Env) (outer : List Env) (L : Addr) (im fz : Led0) (X : Prop) (Ec : Value → Shared → Prop) (s : Shared) : Prop :=
  ∀ e h' tk' im' hh m' ob tp,Sub im im' → Fr h₀ L hh m' → News h₀ L hh (im' ++ fz) → hh.get? e = none → (∀ b o,hh.get? b = some o → h'.get? b = some o) → h'.get? e = some ob → ob.cls = .ref 316 →
    ob.data = .fields #[tp,.none,.none,.none,.bool false,.none] → X → Ec (.ref e) { s with heap := h',toks := tk' }
noncomputable def EXPT (rz : Bool) (base h₀ : Heap) (env : Env) (outer : List Env) (L : Addr) (im fz : Led0) (X : Prop) (Ec : Value → Shared → Prop) (s : Shared) : Prop :=
  EXP base h₀ env outer L im fz X Ec s ∧ (rz = true → EXN base h₀ env outer L im fz X Ec s)
theorem EXPT.mono {rz : Bool} {base h₀ : Heap} {env : Env} {outer : List Env} {L : Addr} {im im' fz : Led0} {X : Prop} {Ec : Value → Shared → Prop} {s : Shared} (h : EXPT rz base h₀ env outer L im fz X Ec s) (hs : Sub im im') :
    EXPT rz base h₀ env outer L im' fz X Ec s := ⟨h.1.mono hs,fun r e h' tk' im'' hh m' ob tp h1 => h.2 r e h' tk' im'' hh m' ob tp (hs.trans h1)⟩
theorem EXPT.no {rz : Bool} {base h₀ : Heap} {env : Env} {outer : List Env} {L : Addr} {im fz : Led0} {Ec : Value → Shared → Prop} {s : Shared} : EXPT rz base h₀ env outer L im fz False Ec s :=
  ⟨fun _ _ _ _ _ _ _ _ _ _ x => x.elim,fun _ _ _ _ _ _ _ _ _ _ _ _ _ _ _ _ _ x => x.elim⟩
noncomputable def TR (g : GW) (fi : FI) (d : Nat) (X : Prop) (loc : Loc) (μ : List MO) {α β : Type} (rel : Led0 → List Addr → β → α → Prop) (t : Addr → Sem α) (Q : β → List MO → Prop) : Prop :=
  ∀ (A : Around) (outer : List Env) (base h₀ : Heap) (L : Addr) (m : Str → Option Value) (cs : List Cell) (im fz : Led0) (s : Shared) (Qc : α → Shared → Prop) (Ec : Value → Shared → Prop),
    Dyn g d A (fi.env L) outer base h₀ → Fr h₀ L s.heap m → LR g im (caddr cs) fi.names loc m → Led g h₀ L s.heap μ cs im fz → 0 < s.toks →
    (∀ r b μ' cs' im' h' tk',Fr h₀ L h' m → LR g im' (caddr cs') fi.names loc m → Led g h₀ L h' μ' cs' im' fz → 0 < tk' → Sub im im' → Pre (caddr cs) (caddr cs') → rel im' (caddr cs') b r → Q b μ' → Qc r { s with heap := h',toks := tk' }) →
    EXPT fi.rz base h₀ (fi.env L) outer L im fz X Ec s → wpAny (model g.prog g.w) A (t L) Qc Ec s
noncomputable abbrev PT := Nat → Prop → Loc → List MO → (AV → List MO → Prop) → Prop
noncomputable abbrev PTB := Nat → Prop → Loc → List MO → (Bool → List MO → Prop) → Prop
noncomputable abbrev PTL := Nat → Prop → Loc → List MO → (List AV → List MO → Prop) → Prop
noncomputable def relB (_ : Led0) (_ : List Addr) (b : Bool) (r : Bool) : Prop := r = b
noncomputable def relV (g : GW) (im : Led0) (η : List Addr) (b : AV) (r : Value) : Prop := AR g im η b r
noncomputable def relL (g : GW) (im : Led0) (η : List Addr) (b : List AV) (r : List Value) : Prop := ARs g im η b r
noncomputable def EV (g : GW) (fi : FI) (e : Expr) (P : PT) : Prop := ∀ d X loc μ Q,P d X loc μ Q → TR g fi d X loc μ (relV g) (fun L => eval e (fi.env L)) Q
noncomputable def BV (g : GW) (fi : FI) (e : Expr) (P : PTB) : Prop := ∀ d X loc μ Q,P d X loc μ Q → TR g fi d X loc μ relB (fun L => PySem.isTrue e (fi.env L) (eval e (fi.env L))) Q
noncomputable def LV (g : GW) (fi : FI) (pos : Pos) (es : List Expr) (P : PTL) : Prop := ∀ d X loc μ Q,P d X loc μ Q → TR g fi d X loc μ (relL g) (fun L => spliced (backTo pos (starEach es (fi.env L)))) Q
structure FI.Ok (fi : FI) : Prop where
  kind : fi.scope.kind = .function
  nd : fi.names.Nodup
section
variable {g : GW} {fi : FI}
theorem ev_int {i : Int} {k : Nat} {pos : Pos} : EV g fi (.Constant (.int i) k pos) fun _ _ _ μ Q => Q (.pv (.int i)) μ :=
  fun d X loc μ Q h A outer base h₀ L m cs im fz s Qc Ec hD F LRR D tk hQ hE =>
    wpAny_Constant_int (hQ _ (.pv (.int i)) μ cs im s.heap (s.toks + 1) F LRR D (Nat.succ_pos _) Sub.refl Pre.refl ⟨s.toks,rfl⟩ h)
theorem ev_str {x : Str} {k : Nat} {pos : Pos} : EV g fi (.Constant (.str x) k pos) fun _ _ _ μ Q => Q (.pv (.str x)) μ :=
  fun d X loc μ Q h A outer base h₀ L m cs im fz s Qc Ec hD F LRR D tk hQ hE =>
    Calls.Constant_str (hQ _ (.pv (.str x)) μ cs im s.heap (s.toks + 1) F LRR D (Nat.succ_pos _) Sub.refl Pre.refl ⟨s.toks,rfl⟩ h)
theorem ev_bool {b : Bool} {k : Nat} {pos : Pos} : EV g fi (.Constant (.bool b) k pos) fun _ _ _ μ Q => Q (.pv (.bool b)) μ :=
  fun d X loc μ Q h A outer base h₀ L m cs im fz s Qc Ec hD F LRR D tk hQ hE =>
    Constant_bool (hQ _ (.pv (.bool b)) μ cs im s.heap s.toks F LRR D tk Sub.refl Pre.refl rfl h)
theorem ev_none {k : Nat} {pos : Pos} : EV g fi (.Constant .none k pos) fun _ _ _ μ Q => Q (.pv .none) μ :=
  fun d X loc μ Q h A outer base h₀ L m cs im fz s Qc Ec hD F LRR D tk hQ hE =>
    Constant_none (hQ _ (.pv .none) μ cs im s.heap s.toks F LRR D tk Sub.refl Pre.refl rfl h)
noncomputable def pLoc (i : Nat) : PT := fun _ _ loc μ Q => match loc[i]? with
  | some (some v) => Q v μ
  | _ => False
theorem ev_loc {x : Str} {pos : Pos} (i : Nat) (ok : fi.Ok) (hn : fi.names[i]? = some x) (hk : fi.scope.names.lookup x = some .local) (hd : (x == ("__debug__" : Str)) = false) : EV g fi (.Name x pos) (pLoc i) := by
  intro d X loc μ Q h A outer base h₀ L m cs im fz s Qc Ec hD F LRR D tk hQ hE
  unfold pLoc at h
  split at h
  · rename_i v hv
    obtain ⟨u,hu,hr⟩ := LRR i x v hn hv
    exact ld F hu (hQ _ v μ cs im s.heap s.toks F LRR D tk Sub.refl Pre.refl hr h) ok.kind hk hd
  · exact h.elim
noncomputable def topVal : Value → Option PV
  | .ref a => some (.top a)
  | .str s _ => some (.str s)
  | .int i _ => some (.int i)
  | _ => none
theorem topVal_rel {im : Led0} {v : Value} {p : PV} (h : topVal v = some p) : PR g im p v := by
  cases v <;> simp only [topVal,Option.some.injEq,reduceCtorEq] at h <;> subst h
  · exact ⟨_,rfl⟩
  · exact ⟨_,rfl⟩
  · rfl
theorem ev_top {x : Str} {pos : Pos} {v : Value} {p : PV} (ok : fi.Ok) (hk : fi.scope.names.lookup x = some .globalImplicit) (hd : (x == ("__debug__" : Str)) = false) (hv : nsIn g.K mainGlobals x = some (some v)) (hp : topVal v = some p) :
    EV g fi (.Name x pos) fun _ _ _ μ Q => Q (.pv p) μ := by
  intro d X loc μ Q h A outer base h₀ L m cs im fz s Qc Ec hD F LRR D tk hQ hE
  exact name_K F hD.X (topRead_of hD.T) hv (hQ _ (.pv p) μ cs im s.heap s.toks F LRR D tk Sub.refl Pre.refl (topVal_rel hp) h) ok.kind hk hd
theorem ev_blt {x : Str} {pos : Pos} {b : BI} (ok : fi.Ok) (hk : fi.scope.names.lookup x = some .globalImplicit) (hd : (x == ("__debug__" : Str)) = false) (hv : nsIn g.K mainGlobals x = some none) (hb : bootBuiltins x = some b.val) (hn : x ≠ "__name__") :
    EV g fi (.Name x pos) fun _ _ _ μ Q => Q (.pv (.blt b)) μ := by
  intro d X loc μ Q h A outer base h₀ L m cs im fz s Qc Ec hD F LRR D tk hQ hE
  exact name_B F hD.X (topRead_of hD.T) hv hb hn (hQ _ (.pv (.blt b)) μ cs im s.heap s.toks F LRR D tk Sub.refl Pre.refl rfl h) ok.kind hk hd
theorem lv_nil {pos : Pos} : LV g fi pos [] fun _ _ _ μ Q => Q [] μ :=
  fun d X loc μ Q h A outer base h₀ L m cs im fz s Qc Ec hD F LRR D tk hQ hE =>
    args_nil (hQ _ [] μ cs im s.heap s.toks F LRR D tk Sub.refl Pre.refl rfl h)
noncomputable def pCons (P : PT) (R : PTL) : PTL := fun d X loc μ Q => P d X loc μ fun v μ' => R d X loc μ' fun vs μ'' => Q (v :: vs) μ''
theorem lv_cons {pos : Pos} {e : Expr} {es : List Expr} {P : PT} {R : PTL} (he : EV g fi e P) (hes : LV g fi pos es R) (hs : ∀ env,starEach (e :: es) env = (false,eval e env) :: starEach es env) :
    LV g fi pos (e :: es) (pCons P R) := by
  intro d X loc μ Q h A outer base h₀ L m cs im fz s Qc Ec hD F LRR D tk hQ hE
  refine args_cons (he d X loc μ _ h A outer base h₀ L m cs im fz s _ Ec hD F LRR D tk (fun r b μ' cs' im' h' tk' F' L' D' t' sb pr hr hq => ?_) hE) (hs _)
  refine hes d X loc μ' _ hq A outer base h₀ L m cs' im' fz _ _ Ec hD F' L' D' t' (fun r2 b2 μ2 cs2 im2 h2 tk2 F2 L2 D2 t2 sb2 pr2 hr2 hq2 => ?_) (hE.mono sb)
  exact hQ _ (b :: b2) μ2 cs2 im2 h2 tk2 F2 L2 D2 t2 (sb.trans sb2) (pr.trans pr2) ⟨r,r2,rfl,AR.mono sb2 pr2 hr,hr2⟩ hq2
end
end Mine
end
section
namespace Mine
noncomputable def strsOf : List PV → Option (List Str)
  | [] => some []
  | .str s :: r => (strsOf r).map (s :: ·)
  | _ :: _ => none
theorem strsOf_rel {g : GW} {im : Led0} : ∀ {ps : List PV} {ys : List Str} {vs : List Value},strsOf ps = some ys → PRs g im ps vs → StrsAre vs ys
  | [],_,_,h,e => by cases h; cases e; exact .nil
  | .str s :: r,ys,vs,h,⟨v,w,e,⟨t,hv⟩,hr⟩ => by
    subst e hv
    simp only [strsOf,Option.map_eq_some_iff] at h
    obtain ⟨zs,hz,rfl⟩ := h
    exact .cons _ _ (strsOf_rel hz hr)
  | .none :: _,_,_,h,_ => (nomatch h)
  | .bool _ :: _,_,_,h,_ => (nomatch h)
  | .int _ :: _,_,_,h,_ => (nomatch h)
  | .tup _ :: _,_,_,h,_ => (nomatch h)
  | .lst _ :: _,_,_,h,_ => (nomatch h)
  | .inst _ _ :: _,_,_,h,_ => (nomatch h)
  | .top _ :: _,_,_,h,_ => (nomatch h)
  | .blt _ :: _,_,_,h,_ => (nomatch h)
  | .scr :: _,_,_,h,_ => (nomatch h)
noncomputable def isNoneP : PV → Option Bool
  | .none => some true
  | .str _ => some false
  | .int _ => some false
  | .inst _ _ => some false
  | .tup _ => some false
  | _ => none
noncomputable def inStr (y x : Str) : Bool := !(Builtin.Str.occurrences x y 0 x.length 1).isEmpty
inductive ResB (S : Bool → Prop) where
  | ok (c : Bool) (h : S c)
  | no
noncomputable def ResB.go {S : Bool → Prop} (r : ResB S) (K : Bool → Prop) : Prop := match r with
  | .ok c _ => K c
  | .no => False
theorem ResB.sound {S K : Bool → Prop} : ∀ {r : ResB S},r.go K → ∃ c,S c ∧ K c
  | .ok c h,k => ⟨c,h,k⟩
inductive CmpIs : CmpOp → AV → AV → Bool → Prop where
  | eq_s (x y : Str) : CmpIs .Eq (.pv (.str x)) (.pv (.str y)) (x == y)
  | ne_s (x y : Str) : CmpIs .NotEq (.pv (.str x)) (.pv (.str y)) (x != y)
  | eq_i (x y : Int) : CmpIs .Eq (.pv (.int x)) (.pv (.int y)) (x == y)
  | ne_i (x y : Int) : CmpIs .NotEq (.pv (.int x)) (.pv (.int y)) (x != y)
  | lt_i (x y : Int) : CmpIs .Lt (.pv (.int x)) (.pv (.int y)) (decide (x < y))
  | le_i (x y : Int) : CmpIs .LtE (.pv (.int x)) (.pv (.int y)) (decide (x ≤ y))
  | gt_i (x y : Int) : CmpIs .Gt (.pv (.int x)) (.pv (.int y)) (decide (y < x))
  | ge_i (x y : Int) : CmpIs .GtE (.pv (.int x)) (.pv (.int y)) (decide (y ≤ x))
  | in_s (y x : Str) : CmpIs .In (.pv (.str y)) (.pv (.str x)) (inStr y x)
  | in_t (x : Str) (ps : List PV) (ys : List Str) (hy : strsOf ps = some ys) : CmpIs .In (.pv (.str x)) (.pv (.tup ps)) (ys.any (· == x))
  | is_n (v : PV) (c : Bool) (h : isNoneP v = some c) : CmpIs .Is (.pv v) (.pv .none) c
noncomputable def cmpT (x : Str) (ps : List PV) : (o : Option (List Str)) → strsOf ps = o → ResB (CmpIs .In (.pv (.str x)) (.pv (.tup ps)))
  | some ys,h => .ok (ys.any (· == x)) (.in_t x ps ys h)
  | none,_ => .no
noncomputable def cmpN (v : PV) : (o : Option Bool) → isNoneP v = o → ResB (CmpIs .Is (.pv v) (.pv .none))
  | some c,h => .ok c (.is_n v c h)
  | none,_ => .no
noncomputable def cmpR : (op : CmpOp) → (a b : AV) → ResB (CmpIs op a b)
  | .Eq,.pv (.str x),.pv (.str y) => .ok (x == y) (.eq_s x y)
  | .NotEq,.pv (.str x),.pv (.str y) => .ok (x != y) (.ne_s x y)
  | .Eq,.pv (.int x),.pv (.int y) => .ok (x == y) (.eq_i x y)
  | .NotEq,.pv (.int x),.pv (.int y) => .ok (x != y) (.ne_i x y)
  | .Lt,.pv (.int x),.pv (.int y) => .ok (decide (x < y)) (.lt_i x y)
  | .LtE,.pv (.int x),.pv (.int y) => .ok (decide (x ≤ y)) (.le_i x y)
  | .Gt,.pv (.int x),.pv (.int y) => .ok (decide (y < x)) (.gt_i x y)
  | .GtE,.pv (.int x),.pv (.int y) => .ok (decide (y ≤ x)) (.ge_i x y)
  | .In,.pv (.str y),.pv (.str x) => .ok (inStr y x) (.in_s y x)
  | .In,.pv (.str x),.pv (.tup ps) => cmpT x ps (strsOf ps) rfl
  | .Is,.pv v,.pv .none => cmpN v (isNoneP v) rfl
  | _,_,_ => .no
structure TopTup (g : GW) (a : Addr) (ys : List Str) : Prop where
  at_ : ∃ vs n dd sl,g.K.lookup a = some ⟨.type "tuple",dd,.seq vs.toArray n,sl⟩ ∧ StrsAre vs ys
section
variable {g : GW} {fi : FI}
theorem isNone_ok {prog : Program} {A : Around} {Ec : Value → Shared → Prop} {s : Shared} {im : Led0} {p : PV} {v : Value} {b : Bool} {Q : Value → Shared → Prop} (h : isNoneP p = some b) (r : PR g im p v) (q : Q (.bool b) s) :
    wpAny (model prog g.w) A (compareOp .Is v .none) Q Ec s := by
  cases p <;> simp only [isNoneP,Option.some.injEq,reduceCtorEq] at h <;> subst h
  · cases r; exact is_none_none q
  · obtain ⟨t,rfl⟩ := r; exact is_none_ne (by intro e; cases e) q
  · obtain ⟨t,rfl⟩ := r; exact is_none_ne (by intro e; cases e) q
  · obtain ⟨_,_,_,rfl,_⟩ := r; exact is_none_ne (by intro e; cases e) q
  · obtain ⟨_,_,_,_,rfl,_⟩ := r; exact is_none_ne (by intro e; cases e) q
noncomputable def pCmp (op : CmpOp) (P R : PT) : PT := fun d X loc μ Q => P d X loc μ fun a μ1 => R d X loc μ1 fun b μ2 => (cmpR op a b).go fun c => Q (.pv (.bool c)) μ2
noncomputable def pCmpB (op : CmpOp) (P R : PT) : PTB := fun d X loc μ Q => P d X loc μ fun a μ1 => R d X loc μ1 fun b μ2 => (cmpR op a b).go fun c => Q c μ2
theorem cmpV_ok {A : Around} {Ec : Value → Shared → Prop} {s : Shared} {h₀ : Heap} {L : Addr} {im all : Led0} {η : List Addr} {op : CmpOp} {a b : AV} {va vb : Value} {c : Bool} {Q : Value → Shared → Prop}
    (h : CmpIs op a b c) (ra : AR g im η a va) (rb : AR g im η b vb) (N : News h₀ L s.heap all) (hs : Sub im all) (q : Q (.bool c) s) : wpAny (model g.prog g.w) A (compareOp op va vb) Q Ec s := by
  cases h with
  | eq_s x y => obtain ⟨t,rfl⟩ := ra; obtain ⟨u,rfl⟩ := rb; exact eq_str q
  | ne_s x y => obtain ⟨t,rfl⟩ := ra; obtain ⟨u,rfl⟩ := rb; exact ne_str q
  | eq_i x y => obtain ⟨t,rfl⟩ := ra; obtain ⟨u,rfl⟩ := rb; exact eq_int q
  | ne_i x y => obtain ⟨t,rfl⟩ := ra; obtain ⟨u,rfl⟩ := rb; exact ne_int q
  | lt_i x y => obtain ⟨t,rfl⟩ := ra; obtain ⟨u,rfl⟩ := rb; exact lt_int q
  | le_i x y => obtain ⟨t,rfl⟩ := ra; obtain ⟨u,rfl⟩ := rb; exact le_int q
  | gt_i x y => obtain ⟨t,rfl⟩ := ra; obtain ⟨u,rfl⟩ := rb; exact gt_int q
  | ge_i x y => obtain ⟨t,rfl⟩ := ra; obtain ⟨u,rfl⟩ := rb; exact ge_int q
  | in_s y x => obtain ⟨t,rfl⟩ := ra; obtain ⟨u,rfl⟩ := rb; exact in_str q
  | in_t x ps ys hy =>
    obtain ⟨t,rfl⟩ := ra
    obtain ⟨x,vs,n,rfl,hm,hr⟩ := rb
    exact in_tuple_strs (News.isTup N (hs _ hm)) (strsOf_rel hy hr) q
  | is_n v c h => cases rb; exact isNone_ok h ra q
theorem ev_cmp {l r : Expr} {op : CmpOp} {pos : Pos} {P R : PT} (hl : EV g fi l P) (hr : EV g fi r R) (hb : behindInMarks op r = false) : EV g fi (.Compare l [op] [r] pos) (pCmp op P R) := by
  intro d X loc μ Q h A outer base h₀ L m cs im fz s Qc Ec hD F LRR D tk hQ hE
  refine wpAny_Compare1 (hl d X loc μ _ h A outer base h₀ L m cs im fz s _ Ec hD F LRR D tk (fun r1 b1 μ1 cs1 im1 h1 tk1 F1 L1 D1 t1 sb1 pr1 hr1 hq1 => ?_) hE) hb
  refine hr d X loc μ1 _ hq1 A outer base h₀ L m cs1 im1 fz _ _ Ec hD F1 L1 D1 t1 (fun r2 b2 μ2 cs2 im2 h2 tk2 F2 L2 D2 t2 sb2 pr2 hr2 hq2 => ?_) (hE.mono sb1)
  obtain ⟨c,hc,hq2⟩ := ResB.sound hq2
  · exact cmpV_ok hc (AR.mono sb2 pr2 hr1) hr2 D2.N (fun p hp => D2.im_in hp) (hQ _ (.pv (.bool c)) μ2 cs2 im2 h2 tk2 F2 L2 D2 t2 (sb1.trans sb2) (pr1.trans pr2) rfl hq2)
theorem bv_cmp {l r : Expr} {op : CmpOp} {pos : Pos} {P R : PT} (hl : EV g fi l P) (hr : EV g fi r R) (hb : behindInMarks op r = false) : BV g fi (.Compare l [op] [r] pos) (pCmpB op P R) := by
  intro d X loc μ Q h A outer base h₀ L m cs im fz s Qc Ec hD F LRR D tk hQ hE
  refine wpAny_isTrue_Compare1 (hl d X loc μ _ h A outer base h₀ L m cs im fz s _ Ec hD F LRR D tk (fun r1 b1 μ1 cs1 im1 h1 tk1 F1 L1 D1 t1 sb1 pr1 hr1 hq1 => ?_) hE) hb
  refine hr d X loc μ1 _ hq1 A outer base h₀ L m cs1 im1 fz _ _ Ec hD F1 L1 D1 t1 (fun r2 b2 μ2 cs2 im2 h2 tk2 F2 L2 D2 t2 sb2 pr2 hr2 hq2 => ?_) (hE.mono sb1)
  obtain ⟨c,hc,hq2⟩ := ResB.sound hq2
  · exact cmpV_ok hc (AR.mono sb2 pr2 hr1) hr2 D2.N (fun p hp => D2.im_in hp) (wpAny_truthy_bool (hQ c c μ2 cs2 im2 h2 tk2 F2 L2 D2 t2 (sb1.trans sb2) (pr1.trans pr2) rfl hq2))
noncomputable def pInTop (neg : Bool) (ys : List Str) (P : PT) : PT := fun d X loc μ Q => P d X loc μ fun a μ1 => match a with
  | .pv (.str x) => Q (.pv (.bool (neg ^^ ys.any (· == x)))) μ1
  | _ => False
theorem inTop_ok {A : Around} {Ec : Value → Shared → Prop} {s : Shared} {h₀ : Heap} {a : Addr} {ys : List Str} {x : Str} {t : Tok} {neg : Bool} {Q : Value → Shared → Prop} (X : g.K.In s.heap) (T : TopTup g a ys)
    (q : Q (.bool (neg ^^ ys.any (· == x))) s) : wpAny (model g.prog g.w) A (compareOp (if neg then .NotIn else .In) (.str x t) (.ref a)) Q Ec s := by
  obtain ⟨vs,n,dd,sl,hl,hv⟩ := T.at_
  cases neg with
  | false => exact in_tuple_strs (tupK X hl) hv (by simpa using q)
  | true => exact notin_tuple_strs (tupK X hl) hv (by simpa using q)
theorem ev_inTop {l : Expr} {x : Str} {np pos : Pos} {a : Addr} {ys : List Str} {P : PT} (neg : Bool) (hl : EV g fi l P) (ok : fi.Ok) (hk : fi.scope.names.lookup x = some .globalImplicit) (hd : (x == ("__debug__" : Str)) = false)
    (hv : nsIn g.K mainGlobals x = some (some (.ref a))) (T : TopTup g a ys) : EV g fi (.Compare l [if neg then .NotIn else .In] [.Name x np] pos) (pInTop neg ys P) := by
  intro d X loc μ Q h A outer base h₀ L m cs im fz s Qc Ec hD F LRR D tk hQ hE
  refine wpAny_Compare1 (hl d X loc μ _ h A outer base h₀ L m cs im fz s _ Ec hD F LRR D tk (fun r1 b1 μ1 cs1 im1 h1 tk1 F1 L1 D1 t1 sb1 pr1 hr1 hq1 => ?_) hE) (by cases neg <;> rfl)
  refine name_K F1 hD.X (topRead_of hD.T) hv ?_ ok.kind hk hd
  split at hq1
  · obtain ⟨t,rfl⟩ := hr1
    exact inTop_ok (h₀ := h₀) (hD.X.keeps F1.keep) T (hQ _ (.pv (.bool _)) μ1 cs1 im1 h1 tk1 F1 L1 D1 t1 sb1 pr1 rfl hq1)
  · exact hq1.elim
noncomputable def truthA : AV → Option Bool
  | .pv (.bool b) => some b
  | _ => none
noncomputable def pTest (P : PT) : PTB := fun d X loc μ Q => P d X loc μ fun v μ1 => match truthA v with
  | some b => Q b μ1
  | none => False
theorem truth_ok {A : Around} {Ec : Value → Shared → Prop} {s : Shared} {im : Led0} {η : List Addr} {a : AV} {v : Value} {b : Bool} {Q : Bool → Shared → Prop} (h : truthA a = some b) (r : AR g im η a v) (q : Q b s) : wpAny (model g.prog g.w) A (truthy v) Q Ec s := by
  unfold truthA at h
  split at h
  · cases h; cases r; exact wpAny_truthy_bool q
  · cases h
theorem bv_plain {e : Expr} {P : PT} (he : EV g fi e P) (hs : ∀ env whole,PySem.isTrue e env whole = (do let v ← whole; standAt e.pos; holding [v] (truthy v))) : BV g fi e (pTest P) := by
  intro d X loc μ Q h A outer base h₀ L m cs im fz s Qc Ec hD F LRR D tk hQ hE
  refine isTrue_plain (he d X loc μ _ h A outer base h₀ L m cs im fz s _ Ec hD F LRR D tk (fun r1 b1 μ1 cs1 im1 h1 tk1 F1 L1 D1 t1 sb1 pr1 hr1 hq1 => ?_) hE) (hs _ _)
  split at hq1
  · rename_i c hc
    exact truth_ok hc hr1 (hQ c c μ1 cs1 im1 h1 tk1 F1 L1 D1 t1 sb1 pr1 rfl hq1)
  · exact hq1.elim
noncomputable def pNotB (P : PTB) : PTB := fun d X loc μ Q => P d X loc μ fun b μ1 => Q (!b) μ1
theorem bv_not {x : Expr} {pos : Pos} {P : PTB} (hx : BV g fi x P) : BV g fi (.UnaryOp .Not x pos) (pNotB P) := by
  intro d X loc μ Q h A outer base h₀ L m cs im fz s Qc Ec hD F LRR D tk hQ hE
  refine isTrue_not (hx d X loc μ _ h A outer base h₀ L m cs im fz s _ Ec hD F LRR D tk (fun r1 b1 μ1 cs1 im1 h1 tk1 F1 L1 D1 t1 sb1 pr1 hr1 hq1 => ?_) hE)
  exact hQ (!r1) (!b1) μ1 cs1 im1 h1 tk1 F1 L1 D1 t1 sb1 pr1 (by rw [show r1 = b1 from hr1]; rfl) hq1
structure sel (b : Bool) (x y : Prop) : Prop where
  t : b = true → x
  f : b = false → y
noncomputable def pAndB (P R : PTB) : PTB := fun d X loc μ Q => P d X loc μ fun b μ1 => sel b (R d X loc μ1 Q) (Q false μ1)
noncomputable def pOrB (P R : PTB) : PTB := fun d X loc μ Q => P d X loc μ fun b μ1 => sel b (Q true μ1) (R d X loc μ1 Q)
theorem bv_and {x : Expr} {rest : List Expr} {pos : Pos} {P R : PTB} (hx : BV g fi x P) (hr : BV g fi (.BoolOp .And rest pos) R) (hw : ∀ env whole whole',PySem.isTrue (.BoolOp .And rest pos) env whole = PySem.isTrue (.BoolOp .And rest pos) env whole') :
    BV g fi (.BoolOp .And (x :: rest) pos) (pAndB P R) := by
  intro d X loc μ Q h A outer base h₀ L m cs im fz s Qc Ec hD F LRR D tk hQ hE
  refine PyProof.Rows.isTrue_and (hx d X loc μ _ h A outer base h₀ L m cs im fz s _ Ec hD F LRR D tk (fun r1 b1 μ1 cs1 im1 h1 tk1 F1 L1 D1 t1 sb1 pr1 hr1 hq1 => ?_) hE)
  cases (show r1 = b1 from hr1)
  cases r1 with
  | true =>
    simp only [if_true]
    rw [hw]
    exact hr d X loc μ1 _ (hq1.t rfl) A outer base h₀ L m cs1 im1 fz _ _ Ec hD F1 L1 D1 t1 (fun r2 b2 μ2 cs2 im2 h2 tk2 F2 L2 D2 t2 sb2 pr2 hr2 hq2 => hQ r2 b2 μ2 cs2 im2 h2 tk2 F2 L2 D2 t2 (sb1.trans sb2) (pr1.trans pr2) hr2 hq2) (hE.mono sb1)
  | false =>
    simp only [Bool.false_eq_true,if_false]
    exact hQ false false μ1 cs1 im1 h1 tk1 F1 L1 D1 t1 sb1 pr1 rfl (hq1.f rfl)
theorem bv_and_nil {pos : Pos} : BV g fi (.BoolOp .And [] pos) fun _ _ _ μ Q => Q true μ := by
  intro d X loc μ Q h A outer base h₀ L m cs im fz s Qc Ec hD F LRR D tk hQ hE
  exact isTrue_and_nil (hQ true true μ cs im s.heap s.toks F LRR D tk Sub.refl Pre.refl rfl h)
theorem bv_or_nil {pos : Pos} : BV g fi (.BoolOp .Or [] pos) fun _ _ _ μ Q => Q false μ := by
  intro d X loc μ Q h A outer base h₀ L m cs im fz s Qc Ec hD F LRR D tk hQ hE
  exact isTrue_or_nil (hQ false false μ cs im s.heap s.toks F LRR D tk Sub.refl Pre.refl rfl h)
theorem bv_or {x : Expr} {rest : List Expr} {pos : Pos} {P R : PTB} (hx : BV g fi x P) (hr : BV g fi (.BoolOp .Or rest pos) R) (hw : ∀ env whole whole',PySem.isTrue (.BoolOp .Or rest pos) env whole = PySem.isTrue (.BoolOp .Or rest pos) env whole') :
    BV g fi (.BoolOp .Or (x :: rest) pos) (pOrB P R) := by
  intro d X loc μ Q h A outer base h₀ L m cs im fz s Qc Ec hD F LRR D tk hQ hE
  refine PyProof.Rows.isTrue_or (hx d X loc μ _ h A outer base h₀ L m cs im fz s _ Ec hD F LRR D tk (fun r1 b1 μ1 cs1 im1 h1 tk1 F1 L1 D1 t1 sb1 pr1 hr1 hq1 => ?_) hE)
  cases (show r1 = b1 from hr1)
  cases r1 with
  | true =>
    simp only [if_true]
    exact hQ true true μ1 cs1 im1 h1 tk1 F1 L1 D1 t1 sb1 pr1 rfl (hq1.t rfl)
  | false =>
    simp only [Bool.false_eq_true,if_false]
    rw [hw]
    exact hr d X loc μ1 _ (hq1.f rfl) A outer base h₀ L m cs1 im1 fz _ _ Ec hD F1 L1 D1 t1 (fun r2 b2 μ2 cs2 im2 h2 tk2 F2 L2 D2 t2 sb2 pr2 hr2 hq2 => hQ r2 b2 μ2 cs2 im2 h2 tk2 F2 L2 D2 t2 (sb1.trans sb2) (pr1.trans pr2) hr2 hq2) (hE.mono sb1)
noncomputable def pAnd (P R : PT) : PT := fun d X loc μ Q => P d X loc μ fun v μ1 => match truthA v with
  | some b => sel b (R d X loc μ1 Q) (Q v μ1)
  | none => False
theorem ev_and {e1 e2 : Expr} {rest : List Expr} {pos : Pos} {P R : PT} (h1 : EV g fi e1 P) (h2 : EV g fi (.BoolOp .And (e2 :: rest) pos) R) : EV g fi (.BoolOp .And (e1 :: e2 :: rest) pos) (pAnd P R) := by
  intro d X loc μ Q h A outer base h₀ L m cs im fz s Qc Ec hD F LRR D tk hQ hE
  refine BoolOp_and (h1 d X loc μ _ h A outer base h₀ L m cs im fz s _ Ec hD F LRR D tk (fun r1 b1 μ1 cs1 im1 h1 tk1 F1 L1 D1 t1 sb1 pr1 hr1 hq1 => ?_) hE)
  split at hq1
  · rename_i c hc
    refine truth_ok hc hr1 ?_
    cases c with
    | true =>
      simp only [if_true]
      exact h2 d X loc μ1 _ (hq1.t rfl) A outer base h₀ L m cs1 im1 fz _ _ Ec hD F1 L1 D1 t1 (fun r2 b2 μ2 cs2 im2 h2 tk2 F2 L2 D2 t2 sb2 pr2 hr2 hq2 => hQ r2 b2 μ2 cs2 im2 h2 tk2 F2 L2 D2 t2 (sb1.trans sb2) (pr1.trans pr2) hr2 hq2) (hE.mono sb1)
    | false =>
      simp only [Bool.false_eq_true,if_false]
      exact hQ r1 b1 μ1 cs1 im1 h1 tk1 F1 L1 D1 t1 sb1 pr1 hr1 (hq1.f rfl)
  · exact hq1.elim
theorem ev_one {op : BoolOp} {e : Expr} {pos : Pos} {P : PT} (h1 : EV g fi e P) : EV g fi (.BoolOp op [e] pos) P := by
  intro d X loc μ Q h A outer base h₀ L m cs im fz s Qc Ec hD F LRR D tk hQ hE
  exact BoolOp_one (h1 d X loc μ _ h A outer base h₀ L m cs im fz s _ Ec hD F LRR D tk hQ hE)
noncomputable def pOr (P R : PT) : PT := fun d X loc μ Q => P d X loc μ fun v μ1 => match truthA v with
  | some b => sel b (Q v μ1) (R d X loc μ1 Q)
  | none => False
theorem ev_or {e1 e2 : Expr} {rest : List Expr} {pos : Pos} {P R : PT} (h1 : EV g fi e1 P) (h2 : EV g fi (.BoolOp .Or (e2 :: rest) pos) R) : EV g fi (.BoolOp .Or (e1 :: e2 :: rest) pos) (pOr P R) := by
  intro d X loc μ Q h A outer base h₀ L m cs im fz s Qc Ec hD F LRR D tk hQ hE
  refine BoolOp_or (h1 d X loc μ _ h A outer base h₀ L m cs im fz s _ Ec hD F LRR D tk (fun r1 b1 μ1 cs1 im1 h1 tk1 F1 L1 D1 t1 sb1 pr1 hr1 hq1 => ?_) hE)
  split at hq1
  · rename_i c hc
    refine truth_ok hc hr1 ?_
    cases c with
    | true =>
      simp only [if_true]
      exact hQ r1 b1 μ1 cs1 im1 h1 tk1 F1 L1 D1 t1 sb1 pr1 hr1 (hq1.t rfl)
    | false =>
      simp only [Bool.false_eq_true,if_false]
      exact h2 d X loc μ1 _ (hq1.f rfl) A outer base h₀ L m cs1 im1 fz _ _ Ec hD F1 L1 D1 t1 (fun r2 b2 μ2 cs2 im2 h2 tk2 F2 L2 D2 t2 sb2 pr2 hr2 hq2 => hQ r2 b2 μ2 cs2 im2 h2 tk2 F2 L2 D2 t2 (sb1.trans sb2) (pr1.trans pr2) hr2 hq2) (hE.mono sb1)
  · exact hq1.elim
noncomputable def pIf (T : PTB) (P R : PT) : PT := fun d X loc μ Q => T d X loc μ fun b μ1 => sel b (P d X loc μ1 Q) (R d X loc μ1 Q)
theorem ev_ifexp {t e1 e2 : Expr} {pos : Pos} {T : PTB} {P R : PT} (ht : BV g fi t T) (h1 : EV g fi e1 P) (h2 : EV g fi e2 R) : EV g fi (.IfExp t e1 e2 pos) (pIf T P R) := by
  intro d X loc μ Q h A outer base h₀ L m cs im fz s Qc Ec hD F LRR D tk hQ hE
  refine IfExp_ (ht d X loc μ _ h A outer base h₀ L m cs im fz s _ Ec hD F LRR D tk (fun r1 b1 μ1 cs1 im1 h1' tk1 F1 L1 D1 t1 sb1 pr1 hr1 hq1 => ?_) hE)
  cases (show r1 = b1 from hr1)
  cases r1 with
  | true =>
    simp only [if_true]
    exact h1 d X loc μ1 _ (hq1.t rfl) A outer base h₀ L m cs1 im1 fz _ _ Ec hD F1 L1 D1 t1 (fun r2 b2 μ2 cs2 im2 h2 tk2 F2 L2 D2 t2 sb2 pr2 hr2 hq2 => hQ r2 b2 μ2 cs2 im2 h2 tk2 F2 L2 D2 t2 (sb1.trans sb2) (pr1.trans pr2) hr2 hq2) (hE.mono sb1)
  | false =>
    simp only [Bool.false_eq_true,if_false]
    exact h2 d X loc μ1 _ (hq1.f rfl) A outer base h₀ L m cs1 im1 fz _ _ Ec hD F1 L1 D1 t1 (fun r2 b2 μ2 cs2 im2 h2 tk2 F2 L2 D2 t2 sb2 pr2 hr2 hq2 => hQ r2 b2 μ2 cs2 im2 h2 tk2 F2 L2 D2 t2 (sb1.trans sb2) (pr1.trans pr2) hr2 hq2) (hE.mono sb1)
end
end Mine
end
section
namespace Mine
theorem letTemp_str (value : Expr) (x : Str) (t : Tok) (r : Value) : letTemporaryGo value (.str x t) r = pure () := by cases value <;> rfl
theorem sizeLine_nat : sizeLine = 16777216 := by decide
noncomputable def textLine:Nat:=1000000
inductive ResC (S : PV → Prop) where
  | ok (p : PV) (h : S p)
  | when (c : Prop) (p : PV) (h : c → S p)
  | opt (c : Prop) (o : Option PV) (h : c → ∀ p,o = some p → S p)
  | no
noncomputable def ResC.go {S : PV → Prop} (r : ResC S) (K : PV → Prop) : Prop := match r with
  | .ok p _ => K p
  | .when c p _ => c ∧ K p
  | .opt c o _ => c ∧ ∃ p,o = some p ∧ K p
  | .no => False
theorem ResC.sound {S K : PV → Prop} : ∀ {r : ResC S},r.go K → ∃ p,S p ∧ K p
  | .ok p h,k => ⟨p,h,k⟩
  | .when c p h,k => ⟨p,h k.1,k.2⟩
  | .opt c o h,⟨hc,p,e,k⟩ => ⟨p,h hc p e,k⟩
inductive BinIs : Operator → AV → AV → PV → Prop where
  | add_i (x y : Int) : BinIs .Add (.pv (.int x)) (.pv (.int y)) (.int (x + y))
  | sub_i (x y : Int) : BinIs .Sub (.pv (.int x)) (.pv (.int y)) (.int (x - y))
  | mul_i (x y : Int) (h : -(2 ^ 64) < x ∧ x < 2 ^ 64) : BinIs .Mult (.pv (.int x)) (.pv (.int y)) (.int (x * y))
  | mod_i (x y : Int) (h : y ≠ 0) : BinIs .Mod (.pv (.int x)) (.pv (.int y)) (.int (x.fmod y))
  | fdv_i (x y : Int) (h : 0 < y ∧ y < 2 ^ 32) : BinIs .FloorDiv (.pv (.int x)) (.pv (.int y)) (.int (x.fdiv y))
  | add_s (x y : Str) (h : x.length + y.length ≤ textLine) : BinIs .Add (.pv (.str x)) (.pv (.str y)) (.str (x ++ y))
  | add_l (x y : List PV) (h : x.length + y.length ≤ textLine) : BinIs .Add (.pv (.lst x)) (.pv (.lst y)) (.lst (x ++ y))
noncomputable def binR : (op : Operator) → (a b : AV) → ResC (BinIs op a b)
  | .Add,.pv (.int x),.pv (.int y) => .ok (.int (x + y)) (.add_i x y)
  | .Sub,.pv (.int x),.pv (.int y) => .ok (.int (x - y)) (.sub_i x y)
  | .Mult,.pv (.int x),.pv (.int y) => .when (-(2 ^ 64) < x ∧ x < 2 ^ 64) (.int (x * y)) (.mul_i x y)
  | .Mod,.pv (.int x),.pv (.int y) => .when (y ≠ 0) (.int (x.fmod y)) (.mod_i x y)
  | .FloorDiv,.pv (.int x),.pv (.int y) => .when (0 < y ∧ y < 2 ^ 32) (.int (x.fdiv y)) (.fdv_i x y)
  | .Add,.pv (.str x),.pv (.str y) => .when (x.length + y.length ≤ textLine) (.str (x ++ y)) (.add_s x y)
  | .Add,.pv (.lst x),.pv (.lst y) => .when (x.length + y.length ≤ textLine) (.lst (x ++ y)) (.add_l x y)
  | _,_,_ => .no
theorem pylong_small {x y : Int} (h0 : 0 < y) (h : y < 2 ^ 32) : Builtin.divisionGoesByPylong x y = false := by
  unfold Builtin.divisionGoesByPylong
  have h1 : y.natAbs < 2 ^ 32 := by omega
  have h2 : y.natAbs.log2 < 32 := by
    refine (Nat.log2_lt (by omega)).mpr h1
  have h3 : ¬ (if y == 0 then 0 else y.natAbs.log2 / 30 + 1) > 300 := by split <;> omega
  simp only [decide_eq_false h3,Bool.false_and]
theorem PRs.length {g : GW} {im : Led0} : ∀ {ps : List PV} {vs : List Value},PRs g im ps vs → ps.length = vs.length
  | [],_,e => by subst e; rfl
  | _ :: _,_,⟨v,r,e,_,h⟩ => by subst e; rw [List.length_cons,List.length_cons,h.length]
theorem PRs.append {g : GW} {im : Led0} : ∀ {ps qs : List PV} {vs ws : List Value},PRs g im ps vs → PRs g im qs ws → PRs g im (ps ++ qs) (vs ++ ws)
  | [],_,_,_,e,h => by subst e; exact h
  | _ :: _,_,_,_,⟨v,r,e,h1,h2⟩,h => by subst e; exact ⟨v,r ++ _,rfl,h1,h2.append h⟩
theorem PRs.get {g : GW} {im : Led0} : ∀ {ps : List PV} {vs : List Value} {i : Nat} {p : PV},PRs g im ps vs → ps[i]? = some p → ∃ v,vs[i]? = some v ∧ PR g im p v
  | _ :: _,_,0,_,⟨v,r,e,h1,h2⟩,h => by subst e; cases h; exact ⟨v,rfl,h1⟩
  | _ :: _,_,i + 1,_,⟨v,r,e,h1,h2⟩,h => by
    subst e
    obtain ⟨w,hw,hr⟩ := PRs.get (i := i) h2 (by simpa using h)
    exact ⟨w,by simpa using hw,hr⟩
section
variable {g : GW} {fi : FI}
theorem Led.fresh {h₀ h h' : Heap} {L : Addr} {μ : List MO} {cs : List Cell} {im fz : Led0} (D : Led g h₀ L h μ cs im fz) {o : Obj} (N : News h₀ L h' ((h.objs.size,o) :: (cobjs cs ++ (im ++ fz)))) : Led g h₀ L h' μ cs ((h.objs.size,o) :: im) fz :=
  D.more N fun p hp e => Nat.lt_irrefl _ (e ▸ Heap.lt_size (D.N p hp).1)
theorem bin_ok {A : Around} {Ec : Value → Shared → Prop} {s : Shared} {h₀ : Heap} {L : Addr} {m : Str → Option Value} {μ : List MO} {cs : List Cell} {im fz : Led0} {op : Operator} {a b : AV} {p : PV} {va vb : Value} {Q : Value → Shared → Prop}
    (h : BinIs op a b p) (ra : AR g im (caddr cs) a va) (rb : AR g im (caddr cs) b vb) (hh : A.handled = none) (F : Fr h₀ L s.heap m) (D : Led g h₀ L s.heap μ cs im fz) (tk : 0 < s.toks)
    (q : ∀ v im' h' tk',Fr h₀ L h' m → Led g h₀ L h' μ cs im' fz → 0 < tk' → Sub im im' → PR g im' p v → Q v { s with heap := h',toks := tk' }) : wpAny (model g.prog g.w) A (binaryOp op va vb) Q Ec s := by
  have q0 : ∀ v tk',s.toks ≤ tk' → PR g im p v → Q v { s with toks := tk' } := fun v tk' ht r => q v im s.heap tk' F D (Nat.lt_of_lt_of_le tk ht) Sub.refl r
  cases h with
  | add_i x y =>
    obtain ⟨t,rfl⟩ := ra; obtain ⟨u,rfl⟩ := rb
    exact add_int (q0 _ _ (Nat.le_succ _) ⟨_,rfl⟩)
  | sub_i x y =>
    obtain ⟨t,rfl⟩ := ra; obtain ⟨u,rfl⟩ := rb
    exact sub_int (q0 _ _ (Nat.le_succ _) ⟨_,rfl⟩)
  | mul_i x y hb =>
    obtain ⟨t,rfl⟩ := ra; obtain ⟨u,rfl⟩ := rb
    exact mul_int (q0 _ _ (Nat.le_succ _) ⟨_,rfl⟩) (IntMulOk.of_left (intBits_le_64 hb.1 hb.2))
  | mod_i x y hb =>
    obtain ⟨t,rfl⟩ := ra; obtain ⟨u,rfl⟩ := rb
    exact mod_int hb (q0 _ _ (Nat.le_succ _) ⟨_,rfl⟩)
  | fdv_i x y hb =>
    obtain ⟨t,rfl⟩ := ra; obtain ⟨u,rfl⟩ := rb
    exact floordiv_int_or hh (fun e => absurd e (by omega)) (fun _ => q0 _ _ (Nat.le_succ _) ⟨_,rfl⟩) fun _ => .inl (pylong_small hb.1 hb.2)
  | add_s x y hb =>
    obtain ⟨t,rfl⟩ := ra; obtain ⟨u,rfl⟩ := rb
    refine wpAny_with_toks (Nat.le_refl _) (wpAny_mono (add_str (Q := fun v s' => ∃ t' tk,v = .str _ t' ∧ s' = { s with toks := tk }) (fun t' tk => ⟨t',tk,rfl,rfl⟩) (by rw [sizeLine_nat]; unfold textLine at hb; omega)) (fun v s' hv ht => ?_) fun _ _ e _ => e)
    obtain ⟨t',tk',rfl,rfl⟩ := hv
    exact q0 _ _ ht ⟨_,rfl⟩
  | add_l xs ys hb =>
    obtain ⟨x,vs,n,rfl,hm,hr⟩ := ra
    obtain ⟨y,ws,n2,rfl,hm2,hr2⟩ := rb
    refine add_arrays F D.N (News.isList D.N (D.im_in hm)) (News.isList D.N (D.im_in hm2)) (fun h' F' N' => ?_) (by rw [sizeLine_nat]; simp only [List.size_toArray,← hr.length,← hr2.length]; unfold textLine at hb; omega)
    exact q _ _ h' s.toks F' (D.fresh N') tk (fun _ h => .tail _ h) ⟨_,vs ++ ws,0,rfl,.head _,(hr.append hr2).mono fun _ h => .tail _ h⟩
noncomputable def pBin (op : Operator) (P R : PT) : PT := fun d X loc μ Q => P d X loc μ fun a μ1 => R d X loc μ1 fun b μ2 => (binR op a b).go fun p => Q (.pv p) μ2
theorem ev_bin {l r : Expr} {op : Operator} {pos : Pos} {P R : PT} (hl : EV g fi l P) (hr : EV g fi r R) : EV g fi (.BinOp l op r pos) (pBin op P R) := by
  intro d X loc μ Q h A outer base h₀ L m cs im fz s Qc Ec hD F LRR D tk hQ hE
  refine wpAny_BinOp (hl d X loc μ _ h A outer base h₀ L m cs im fz s _ Ec hD F LRR D tk (fun r1 b1 μ1 cs1 im1 h1 tk1 F1 L1 D1 t1 sb1 pr1 hr1 hq1 => ?_) hE)
  refine hr d X loc μ1 _ hq1 A outer base h₀ L m cs1 im1 fz _ _ Ec hD F1 L1 D1 t1 (fun r2 b2 μ2 cs2 im2 h2 tk2 F2 L2 D2 t2 sb2 pr2 hr2 hq2 => ?_) (hE.mono sb1)
  obtain ⟨p,hp,hq2⟩ := ResC.sound hq2
  have hr1' := AR.mono sb2 pr2 hr1
  refine bin_ok hp hr1' hr2 hD.hh F2 D2 t2 fun v im3 h3 tk3 F3 D3 t3 sb3 hr3 => ?_
  exact hQ v (.pv p) μ2 cs2 im3 h3 tk3 F3 (L2.mono sb3 Pre.refl) D3 t3 ((sb1.trans sb2).trans sb3) (pr1.trans pr2) hr3 hq2
noncomputable def pNeg (P : PT) : PT := fun d X loc μ Q => P d X loc μ fun a μ1 => match a with
  | .pv (.int x) => Q (.pv (.int (-x))) μ1
  | _ => False
theorem ev_neg {e : Expr} {pos : Pos} {P : PT} (he : EV g fi e P) : EV g fi (.UnaryOp .USub e pos) (pNeg P) := by
  intro d X loc μ Q h A outer base h₀ L m cs im fz s Qc Ec hD F LRR D tk hQ hE
  refine wpAny_UnaryOp (he d X loc μ _ h A outer base h₀ L m cs im fz s _ Ec hD F LRR D tk (fun r1 b1 μ1 cs1 im1 h1 tk1 F1 L1 D1 t1 sb1 pr1 hr1 hq1 => ?_) hE)
  split at hq1
  · obtain ⟨t,rfl⟩ := hr1
    exact neg_int (hQ _ (.pv (.int _)) μ1 cs1 im1 h1 (tk1 + 1) F1 L1 D1 (Nat.succ_pos _) sb1 pr1 ⟨_,rfl⟩ hq1)
  · exact hq1.elim
noncomputable def allPV : List AV → Option (List PV)
  | [] => some []
  | .pv p :: r => (allPV r).map (p :: ·)
  | _ :: _ => none
theorem allPV_rel {im : Led0} {η : List Addr} : ∀ {xs : List AV} {ps : List PV} {vs : List Value},allPV xs = some ps → ARs g im η xs vs → PRs g im ps vs
  | [],_,_,h,e => by cases h; exact e
  | .pv p :: r,ps,vs,h,⟨v,w,e,hv,hr⟩ => by
    subst e
    obtain ⟨qs,hq,rfl⟩ := Option.map_eq_some_iff.mp h
    exact ⟨v,w,rfl,hv,allPV_rel hq hr⟩
  | .mut _ :: _,_,_,h,_ => (nomatch h)
  | .rd _ :: _,_,_,h,_ => (nomatch h)
theorem ARs.length {im : Led0} {η : List Addr} : ∀ {xs : List AV} {vs : List Value},ARs g im η xs vs → xs.length = vs.length
  | [],_,e => by subst e; rfl
  | _ :: _,_,⟨v,r,e,_,h⟩ => by subst e; rw [List.length_cons,List.length_cons,h.length]
noncomputable def pTup (R : PTL) : PT := fun d X loc μ Q => R d X loc μ fun vs μ1 => match allPV vs with
  | some ps => vs.length ≤ textLine ∧ Q (.pv (.tup ps)) μ1
  | none => False
theorem ev_tup {es : List Expr} {k : Nat} {pos : Pos} {R : PTL} (hes : LV g fi pos es R) : EV g fi (.Tuple es k pos) (pTup R) := by
  intro d X loc μ Q h A outer base h₀ L m cs im fz s Qc Ec hD F LRR D tk hQ hE
  refine Tuple_ (hes d X loc μ _ h A outer base h₀ L m cs im fz s _ Ec hD F LRR D tk (fun r1 b1 μ1 cs1 im1 h1 tk1 F1 L1 D1 t1 sb1 pr1 hr1 hq1 => ?_) hE)
  split at hq1
  · rename_i ps hp
    have hr := allPV_rel hp hr1
    refine newTuple_N F1 D1.N (fun h' F' N' => ?_) (by rw [sizeLine_nat,← ARs.length hr1]; have := hq1.1; unfold textLine at this; omega)
    exact hQ _ (.pv (.tup ps)) μ1 cs1 _ h' tk1 F' (L1.mono (fun _ h => .tail _ h) Pre.refl) (D1.fresh N') t1 (sb1.trans fun _ h => .tail _ h) pr1 ⟨_,r1,0,rfl,.head _,hr.mono fun _ h => .tail _ h⟩ hq1.2
  · exact hq1.elim
noncomputable def pLst (R : PTL) : PT := fun d X loc μ Q => R d X loc μ fun vs μ1 => match allPV vs with
  | some ps => vs.length ≤ textLine ∧ Q (.pv (.lst ps)) μ1
  | none => False
theorem ev_lst {es : List Expr} {pos : Pos} {R : PTL} (hes : LV g fi pos es R) : EV g fi (.List es pos) (pLst R) := by
  intro d X loc μ Q h A outer base h₀ L m cs im fz s Qc Ec hD F LRR D tk hQ hE
  refine List_ (hes d X loc μ _ h A outer base h₀ L m cs im fz s _ Ec hD F LRR D tk (fun r1 b1 μ1 cs1 im1 h1 tk1 F1 L1 D1 t1 sb1 pr1 hr1 hq1 => ?_) hE)
  split at hq1
  · rename_i ps hp
    have hr := allPV_rel hp hr1
    refine newList_N F1 D1.N (fun h' F' N' => ?_) (by rw [sizeLine_nat,← ARs.length hr1]; have := hq1.1; unfold textLine at this; omega)
    exact hQ _ (.pv (.lst ps)) μ1 cs1 _ h' tk1 F' (L1.mono (fun _ h => .tail _ h) Pre.refl) (D1.fresh N') t1 (sb1.trans fun _ h => .tail _ h) pr1 ⟨_,r1,0,rfl,.head _,hr.mono fun _ h => .tail _ h⟩ hq1.2
  · exact hq1.elim
noncomputable def pMLst (R : PTL) : PT := fun d X loc μ Q => R d X loc μ fun vs μ1 => match allPV vs with
  | some ps => vs.length ≤ textLine ∧ Q (.mut μ1.length) (μ1 ++ [.lst ps])
  | none => False
theorem ev_mlst {es : List Expr} {pos : Pos} {R : PTL} (hes : LV g fi pos es R) : EV g fi (.List es pos) (pMLst R) := by
  intro d X loc μ Q h A outer base h₀ L m cs im fz s Qc Ec hD F LRR D tk hQ hE
  refine List_ (hes d X loc μ _ h A outer base h₀ L m cs im fz s _ Ec hD F LRR D tk (fun r1 b1 μ1 cs1 im1 h1 tk1 F1 L1 D1 t1 sb1 pr1 hr1 hq1 => ?_) hE)
  split at hq1
  · rename_i ps hp
    have hr := allPV_rel hp hr1
    refine newList_N F1 D1.N (fun h' F' N' => ?_) (by rw [sizeLine_nat,← ARs.length hr1]; have := hq1.1; unfold textLine at this; omega)
    have D' : Led g h₀ L h' (μ1 ++ [.lst ps]) (cs1 ++ [.lst h1.objs.size r1 0]) im1 fz :=
      D1.cell (c := .lst h1.objs.size r1 0) N' (by unfold Cell.objs; simp) (fun q hq p hp e => by rw [List.mem_singleton.mp hq] at e; exact Nat.lt_irrefl _ (e ▸ Heap.lt_size (D1.N p hp).1)) hr
    have hp' : Pre (caddr cs1) (caddr (cs1 ++ [.lst h1.objs.size r1 0])) := by rw [caddr_app]; exact Pre.app
    refine hQ _ (.mut μ1.length) _ _ im1 h' tk1 F' (L1.mono Sub.refl hp') D' t1 sb1 (pr1.trans hp') ⟨h1.objs.size, ?_,rfl⟩ hq1.2
    rw [caddr_app,D1.R.length]
    unfold caddr
    rw [List.getElem?_append_right (by simp)]
    simp [Cell.addr]
  · exact hq1.elim
inductive SubIs (μ : List MO) : AV → AV → PV → Prop where
  | str (x : Str) (i : Int) (h : 0 ≤ i ∧ i < x.length ∧ i < 2 ^ 62) : SubIs μ (.pv (.str x)) (.pv (.int i)) (.str (Txt.item x i))
  | lst (ps : List PV) (i : Int) (p : PV) (h : 0 ≤ i ∧ i < 2 ^ 62) (hp : ps[i.toNat]? = some p) : SubIs μ (.pv (.lst ps)) (.pv (.int i)) p
  | cell (k : Nat) (ps : List PV) (i : Int) (p : PV) (hk : μ[k]? = some (.lst ps)) (h : 0 ≤ i ∧ i < 2 ^ 62) (hp : ps[i.toNat]? = some p) : SubIs μ (.mut k) (.pv (.int i)) p
noncomputable def subM (μ : List MO) (k : Nat) (i : Int) : (o : Option MO) → μ[k]? = o → ResC (SubIs μ (.mut k) (.pv (.int i)))
  | some (.lst ps),hk => .opt (0 ≤ i ∧ i < 2 ^ 62) ps[i.toNat]? fun h p e => .cell k ps i p hk h e
  | _,_ => .no
noncomputable def subR (μ : List MO) : (a b : AV) → ResC (SubIs μ a b)
  | .pv (.str x),.pv (.int i) => .when (0 ≤ i ∧ i < x.length ∧ i < 2 ^ 62) (.str (Txt.item x i)) (.str x i)
  | .pv (.lst ps),.pv (.int i) => .opt (0 ≤ i ∧ i < 2 ^ 62) ps[i.toNat]? fun h p e => .lst ps i p h e
  | .mut k,.pv (.int i) => subM μ k i μ[k]? rfl
  | _,_ => .no
noncomputable def pSub (P R : PT) : PT := fun d X loc μ Q => P d X loc μ fun a μ1 => R d X loc μ1 fun b μ2 => (subR μ2 a b).go fun p => Q (.pv p) μ2
theorem fits_small {i : Int} (h0 : 0 ≤ i) (h : i < 2 ^ 62) : fitsSsize i = true := by unfold fitsSsize; simp; omega
theorem ev_sub {v i : Expr} {pos : Pos} {P R : PT} (hv : EV g fi v P) (hi : EV g fi i R) (hs : ∀ a b,subscripted i false a b = operate [a,b] (getItem a b)) : EV g fi (.Subscript v i pos) (pSub P R) := by
  intro d X loc μ Q h A outer base h₀ L m cs im fz s Qc Ec hD F LRR D tk hQ hE
  refine Subscript_ (hv d X loc μ _ h A outer base h₀ L m cs im fz s _ Ec hD F LRR D tk (fun r1 b1 μ1 cs1 im1 h1 tk1 F1 L1 D1 t1 sb1 pr1 hr1 hq1 => ?_) hE)
  refine hi d X loc μ1 _ hq1 A outer base h₀ L m cs1 im1 fz _ _ Ec hD F1 L1 D1 t1 (fun r2 b2 μ2 cs2 im2 h2 tk2 F2 L2 D2 t2 sb2 pr2 hr2 hq2 => ?_) (hE.mono sb1)
  have hr1' := AR.mono sb2 pr2 hr1
  obtain ⟨p,hp,hK⟩ := ResC.sound hq2
  cases hp with
  | str x i hb =>
    obtain ⟨t,rfl⟩ := hr1'; obtain ⟨u,rfl⟩ := hr2
    exact item_str (fits_small hb.1 hb.2.2) (by omega) hb.2.1 (fun _ => hQ _ (.pv (.str _)) μ2 cs2 im2 h2 (tk2 + 1) F2 L2 D2 (Nat.succ_pos _) (sb1.trans sb2) (pr1.trans pr2) ⟨_,rfl⟩ hK) (hs _ _) (letTemp_str _ _ _)
  | lst ps i p hb hp =>
    obtain ⟨x,vs,n,rfl,hm,hr⟩ := hr1'
    obtain ⟨u,rfl⟩ := hr2
    obtain ⟨w,hw,hpr⟩ := hr.get hp
    have hL := News.isList D2.N (D2.im_in hm)
    exact tail_any hL.typeIs slot_list_getitem.lookup (wpAny_getItem_list hL hb.1 (by omega) (by simpa using hw) (hQ w (.pv p) μ2 cs2 im2 h2 tk2 F2 L2 D2 t2 (sb1.trans sb2) (pr1.trans pr2) hpr hK)) (hs _ _)
  | cell k ps i p hk hb hp =>
    obtain ⟨a,ha,rfl⟩ := hr1'
    obtain ⟨u,rfl⟩ := hr2
    obtain ⟨a',vs,n,hc,ha',hm,hr⟩ := D2.lst hk
    cases ha.symm.trans ha'
    obtain ⟨w,hw,hpr⟩ := hr.get hp
    have hL := News.isList D2.N hm
    exact tail_any hL.typeIs slot_list_getitem.lookup (wpAny_getItem_list hL hb.1 (by omega) (by simpa using hw) (hQ w (.pv p) μ2 cs2 im2 h2 tk2 F2 L2 D2 t2 (sb1.trans sb2) (pr1.trans pr2) hpr hK)) (hs _ _)
inductive SliceIs : AV → AV → AV → PV → Prop where
  | both (x : Str) (i j : Int) (h : x.length ≤ textLine) : SliceIs (.pv (.str x)) (.pv (.int i)) (.pv (.int j)) (.str (Txt.slice x (some i) (some j)))
  | fst (x : Str) (i : Int) (h : x.length ≤ textLine) : SliceIs (.pv (.str x)) (.pv (.int i)) (.pv .none) (.str (Txt.slice x (some i) none))
noncomputable def sliceR : (a b c : AV) → ResC (SliceIs a b c)
  | .pv (.str x),.pv (.int i),.pv (.int j) => .when (x.length ≤ textLine) (.str (Txt.slice x (some i) (some j))) (.both x i j)
  | .pv (.str x),.pv (.int i),.pv .none => .when (x.length ≤ textLine) (.str (Txt.slice x (some i) none)) (.fst x i)
  | _,_,_ => .no
noncomputable def pSlice (P R U : PT) : PT := fun d X loc μ Q => P d X loc μ fun a μ1 => R d X loc μ1 fun b μ2 => U d X loc μ2 fun c μ3 => (sliceR a b c).go fun p => Q (.pv p) μ3
theorem slice_tail {A : Around} {Ec : Value → Shared → Prop} {s : Shared} {h₀ : Heap} {L : Addr} {m : Str → Option Value} {μ : List MO} {cs : List Cell} {im fz : Led0} {η : List Addr} {value slice : Expr} {a b c : AV} {p : PV} {va vb vc : Value} {Q : Value → Shared → Prop}
    (h : SliceIs a b c p) (ra : AR g im η a va) (rb : AR g im η b vb) (rc : AR g im η c vc) (F : Fr h₀ L s.heap m) (D : Led g h₀ L s.heap μ cs im fz) (tk : 0 < s.toks)
    (hs : ∀ x y,subscripted slice false x y = operate [y,x] (getItem x y))
    (q : ∀ v h' tk',Fr h₀ L h' m → Led g h₀ L h' μ cs im fz → 0 < tk' → PR g im p v → Q v { s with heap := h',toks := tk' }) :
    wpAny (model g.prog g.w) A (subscriptTail value slice va (.ref s.heap.objs.size)) Q Ec { s with heap := s.heap.push { cls := .type "slice",data := .fields #[vb,vc,.none] } } := by
  cases h with
  | both x i j hb =>
    obtain ⟨t,rfl⟩ := ra; obtain ⟨u,rfl⟩ := rb; obtain ⟨u2,rfl⟩ := rc
    refine wpAny_with_toks (Nat.le_refl _) (wpAny_mono (slice_strN_ss (Q := fun v s' => ∃ h' t' k,Fr h₀ L h' m ∧ News h₀ L h' (cobjs cs ++ (im ++ fz)) ∧ v = .str _ t' ∧ s' = { s with heap := h',toks := k }) F D.N (fun h' t' k F' N' => ⟨h',t',k,F',N',rfl,rfl⟩) (hs _ _) (letTemp_str _ _ _) (by rw [sizeLine_nat]; unfold textLine at hb; omega)) (fun v s' hv ht => ?_) fun _ _ e _ => e)
    obtain ⟨h',t',k,F',N',rfl,rfl⟩ := hv
    exact q _ h' k F' (D.of_news N') (Nat.lt_of_lt_of_le tk ht) ⟨_,rfl⟩
  | fst x i hb =>
    obtain ⟨t,rfl⟩ := ra; obtain ⟨u,rfl⟩ := rb; cases rc
    refine wpAny_with_toks (Nat.le_refl _) (wpAny_mono (slice_strN_sn (Q := fun v s' => ∃ h' t' k,Fr h₀ L h' m ∧ News h₀ L h' (cobjs cs ++ (im ++ fz)) ∧ v = .str _ t' ∧ s' = { s with heap := h',toks := k }) F D.N (fun h' t' k F' N' => ⟨h',t',k,F',N',rfl,rfl⟩) (hs _ _) (letTemp_str _ _ _) (by rw [sizeLine_nat]; unfold textLine at hb; omega)) (fun v s' hv ht => ?_) fun _ _ e _ => e)
    obtain ⟨h',t',k,F',N',rfl,rfl⟩ := hv
    exact q _ h' k F' (D.of_news N') (Nat.lt_of_lt_of_le tk ht) ⟨_,rfl⟩
theorem ev_slice {v i j : Expr} {sp pos : Pos} {P R U : PT} (hv : EV g fi v P) (hi : EV g fi i R) (hj : EV g fi j U) : EV g fi (.Subscript v (.Slice (some i) (some j) none sp) pos) (pSlice P R U) := by
  intro d X loc μ Q h A outer base h₀ L m cs im fz s Qc Ec hD F LRR D tk hQ hE
  refine Subscript_ (hv d X loc μ _ h A outer base h₀ L m cs im fz s _ Ec hD F LRR D tk (fun r1 b1 μ1 cs1 im1 h1 tk1 F1 L1 D1 t1 sb1 pr1 hr1 hq1 => ?_) hE)
  refine wpAny_Slice (hi d X loc μ1 _ hq1 A outer base h₀ L m cs1 im1 fz _ _ Ec hD F1 L1 D1 t1 (fun r2 b2 μ2 cs2 im2 h2 tk2 F2 L2 D2 t2 sb2 pr2 hr2 hq2 => ?_) (hE.mono sb1))
  refine hj d X loc μ2 _ hq2 A outer base h₀ L m cs2 im2 fz _ _ Ec hD F2 L2 D2 t2 (fun r3 b3 μ3 cs3 im3 h3 tk3 F3 L3 D3 t3 sb3 pr3 hr3 hq3 => ?_) (hE.mono (sb1.trans sb2))
  refine wpAny_pure (a := Value.none) ?_
  obtain ⟨p,hp,hq3⟩ := ResC.sound hq3
  refine slice_tail (s := ⟨h3,s.gens,s.drawn,tk3,s.os⟩) hp (AR.mono (sb2.trans sb3) (pr2.trans pr3) hr1) (AR.mono sb3 pr3 hr2) hr3 F3 D3 t3 (fun _ _ => rfl) fun v h' tk' F' D' t' hr => ?_
  exact hQ v (.pv p) μ3 cs3 im3 h' tk' F' L3 D' t' ((sb1.trans sb2).trans sb3) ((pr1.trans pr2).trans pr3) hr hq3
theorem ev_sliceFrom {v i : Expr} {sp pos : Pos} {P R : PT} (hv : EV g fi v P) (hi : EV g fi i R) : EV g fi (.Subscript v (.Slice (some i) none none sp) pos) (pSlice P R fun _ _ _ μ Q => Q (.pv .none) μ) := by
  intro d X loc μ Q h A outer base h₀ L m cs im fz s Qc Ec hD F LRR D tk hQ hE
  refine Subscript_ (hv d X loc μ _ h A outer base h₀ L m cs im fz s _ Ec hD F LRR D tk (fun r1 b1 μ1 cs1 im1 h1 tk1 F1 L1 D1 t1 sb1 pr1 hr1 hq1 => ?_) hE)
  refine wpAny_Slice (hi d X loc μ1 _ hq1 A outer base h₀ L m cs1 im1 fz _ _ Ec hD F1 L1 D1 t1 (fun r2 b2 μ2 cs2 im2 h2 tk2 F2 L2 D2 t2 sb2 pr2 hr2 hq2 => ?_) (hE.mono sb1))
  refine wpAny_pure (a := Value.none) (wpAny_pure (a := Value.none) ?_)
  have hq2 : (sliceR b1 b2 (.pv .none)).go fun p => Q (AV.pv p) μ2 := hq2
  obtain ⟨p,hp,hq2⟩ := ResC.sound hq2
  refine slice_tail (s := ⟨h2,s.gens,s.drawn,tk2,s.os⟩) (c := .pv .none) hp (AR.mono sb2 pr2 hr1) hr2 rfl F2 D2 t2 (fun _ _ => rfl) fun v h' tk' F' D' t' hr => ?_
  exact hQ v (.pv p) μ2 cs2 im2 h' tk' F' L2 D' t' (sb1.trans sb2) (pr1.trans pr2) hr hq2
end
end Mine
end
section
namespace Mine
structure ClsOk (g : GW) (C : Addr) : Prop where
  get : plainGet g.K C (nm 0) = true
  dict : hasDictIn g.K C = true
  none : ∀ c,c < 12 → findIn g.K (.ref C) (nm c) = some none
  set : findIn g.K (.ref C) "__setattr__" = some (some (.builtin "object.__setattr__"))
  over : plainOver g.K C = true
noncomputable def clsList : List Addr := [393,498,667,263,66,85,111,137,163,189,208]
structure KOk (g : GW) : Prop where
  cls : ∀ C ∈ clsList,ClsOk g C
theorem handed_PR {g : GW} {im : Led0} {p : PV} {v : Value} (h : PR g im p v) : handedIn v = true := by
  cases p with
  | none => cases h; rfl
  | bool b => cases h; rfl
  | int i => obtain ⟨t,rfl⟩ := h; rfl
  | str s => obtain ⟨t,rfl⟩ := h; rfl
  | tup xs => obtain ⟨a,vs,n,rfl,_⟩ := h; rfl
  | lst xs => obtain ⟨a,vs,n,rfl,_⟩ := h; rfl
  | inst C fs => obtain ⟨a,dx,es,n,rfl,_⟩ := h; rfl
  | top a => cases h; rfl
  | blt b => cases h; cases b <;> decide +kernel
  | scr => cases h; rfl
theorem handed_AR {g : GW} {im : Led0} {η : List Addr} {x : AV} {v : Value} (h : AR g im η x v) : handedIn v = true := by
  cases x with
  | pv p => exact handed_PR h
  | «mut» i => obtain ⟨a,_,rfl⟩ := h; rfl
  | rd i => obtain ⟨a,dx,b,t,n,rfl,_⟩ := h; rfl
noncomputable def getV (μ : List MO) (c : Nat) : AV → Option AV
  | .pv (.inst C fs) => if clsList.contains C then (lookF c fs).map .pv else none
  | .mut i => match μ[i]? with
    | some (.inst C fs) => if clsList.contains C then lookF c fs else none
    | _ => none
  | .rd i => if c == 9 then some (.mut i) else none
  | _ => none
section
variable {g : GW} {fi : FI}
theorem get_ok {A : Around} {Ec : Value → Shared → Prop} {s : Shared} {h₀ : Heap} {L : Addr} {m : Str → Option Value} {μ : List MO} {cs : List Cell} {im fz : Led0} {c : Nat} {a u : AV} {va : Value} {expr : Bool} {Q : Value → Shared → Prop}
    (KO : KOk g) (hc : c < 12) (h : getV μ c a = some u) (ra : AR g im (caddr cs) a va) (X : g.K.In h₀) (F : Fr h₀ L s.heap m) (D : Led g h₀ L s.heap μ cs im fz)
    (q : ∀ v,AR g im (caddr cs) u v → Q v { s with toks := s.toks + 1 }) : wpAny (model g.prog g.w) A (getAttr va (nm c) expr) Q Ec s := by
  have go : ∀ (x C dx : Addr) (es : List DictEntry) (n : Nat) (v : Value),C ∈ clsList → (x,instObj C dx) ∈ cobjs cs ++ (im ++ fz) → (dx,dictOf es n) ∈ cobjs cs ++ (im ++ fz) → W.getL (nm c) es = some (some v) → AR g im (caddr cs) u v →
      wpAny (model g.prog g.w) A (getAttr (.ref x) (nm c) expr) Q Ec s := fun x C dx es n v hC h1 h2 hl hr => by
    have O := KO.cls C hC
    exact W.get_own F X (InstAt.of_news D.N h1 h2) O.get O.dict (O.none c hc) rfl hl (handed_AR hr) (q v hr)
  unfold getV at h
  split at h
  · obtain ⟨x,dx,es,n,rfl,h1,h2,hf⟩ := ra
    split at h
    · rename_i hC
      obtain ⟨p,hp,rfl⟩ := Option.map_eq_some_iff.mp h
      obtain ⟨v,hv,hl⟩ := (hf.getL hc).1 p hp
      exact go x _ dx es n v (List.contains_iff_mem.mp hC) (D.im_in h1) (D.im_in h2) hl hv
    · cases h
  · obtain ⟨x,hx,rfl⟩ := ra
    split at h
    · rename_i i C fs hi
      split at h
      · rename_i hC
        obtain ⟨a,dx,es,n,_,ha,h1,h2,_,hf⟩ := D.inst hi
        cases hx.symm.trans ha
        obtain ⟨v,hv,hl⟩ := (hf.getL hc).1 u h
        exact go _ _ dx es n v (List.contains_iff_mem.mp hC) h1 h2 hl hv
      · cases h
    · cases h
  · obtain ⟨x,dx,b,t,n,rfl,h1,h2,hb⟩ := ra
    split at h
    · rename_i h9
      cases h
      have h9 : c = 9 := by simpa using h9
      subst h9
      refine go x 263 dx _ n (.ref b) (by decide) (D.im_in h1) (D.im_in h2) ?_ ⟨b,hb,rfl⟩
      have q9 := key_isStr (k := 9) (c := 9) (by omega) (by omega) t
      unfold W.getL
      rw [List.find?_cons]
      dsimp only
      rw [q9]
      rfl
    · cases h
  · cases h
noncomputable def pAttr (c : Nat) (P : PT) : PT := fun d X loc μ Q => P d X loc μ fun a μ1 => match getV μ1 c a with
  | some u => Q u μ1
  | none => False
theorem ev_attr {e : Expr} {attr : Str} {pos : Pos} {P : PT} (c : Nat) (KO : KOk g) (he : EV g fi e P) (hc : c < 12) (hn : attr = nm c)
    (hs : ∀ env,eval (.Attribute e attr pos) env = (do let o ← eval e env; standAt pos.atName; let r ← holding [o] (getAttr o attr true); letTemporaryGo e o r; pure r)) : EV g fi (.Attribute e attr pos) (pAttr c P) := by
  intro d X loc μ Q h A outer base h₀ L m cs im fz s Qc Ec hD F LRR D tk hQ hE
  refine Attribute_any_ (he d X loc μ _ h A outer base h₀ L m cs im fz s _ Ec hD F LRR D tk (fun r1 b1 μ1 cs1 im1 h1 tk1 F1 L1 D1 t1 sb1 pr1 hr1 hq1 => ?_) hE) (hs _)
  split at hq1
  · rename_i u hu
    rw [hn]
    exact get_ok KO hc hu hr1 hD.X F1 D1 fun v hv => hQ v u μ1 cs1 im1 h1 (tk1 + 1) F1 L1 D1 (Nat.succ_pos _) sb1 pr1 hv hq1
  · exact hq1.elim
noncomputable def RetTo (Qc Ec : Value → Shared → Prop) (r : Result) (s' : Shared) : Prop := match r with
  | .ok (.ret v) => Qc v s'
  | .ok _ => False
  | .error e => Ec e s'
noncomputable def CALL (g : GW) (d : Nat) (f : Addr) (args : List AV) (μ : List MO) (Q : AV → List MO → Prop) (X : Prop) : Prop :=
  ∀ (A : Around) (env : Env) (outer : List Env) (base h₀ : Heap) (L : Addr) (m : Str → Option Value) (cs : List Cell) (im fz : Led0) (s : Shared) (vs : List Value) (Qc Ec : Value → Shared → Prop),
    Dyn g d A env outer base h₀ → env.frame = some L → env.scope.kind = .function → Fr h₀ L s.heap m → Led g h₀ L s.heap μ cs im fz → 0 < s.toks → ARs g im (caddr cs) args vs →
    (∀ v b μ' cs' im' h' tk',Fr h₀ L h' m → Led g h₀ L h' μ' cs' im' fz → 0 < tk' → Sub im im' → Pre (caddr cs) (caddr cs') → AR g im' (caddr cs') b v → Q b μ' → Qc v { s with heap := h',toks := tk' }) →
    EXP base h₀ env outer L im fz X Ec s → codeAny (model g.prog g.w) A (.call (.ref f) ⟨vs,[]⟩) (RetTo Qc Ec) s
theorem CALL.mono {d : Nat} {f : Addr} {args : List AV} {μ : List MO} {Q Q' : AV → List MO → Prop} {X X' : Prop} (h : CALL g d f args μ Q X) (hq : ∀ b μ',Q b μ' → Q' b μ') (hx : X → X') : CALL g d f args μ Q' X' :=
  fun A env outer base h₀ L m cs im fz s vs Qc Ec hD hf hk F D tk ha hQ hE =>
    h A env outer base h₀ L m cs im fz s vs Qc Ec hD hf hk F D tk ha (fun v b μ' cs' im' h' tk' F' D' t' sb pr hr q => hQ v b μ' cs' im' h' tk' F' D' t' sb pr hr (hq b μ' q))
      fun e h' tk' im' hh m' h1 h2 h3 h4 x => hE e h' tk' im' hh m' h1 h2 h3 h4 (hx x)
theorem Dyn.less {d d' : Nat} {A : Around} {env : Env} {outer : List Env} {base h₀ : Heap} (h : Dyn g d A env outer base h₀) (hd : d' ≤ d) : Dyn g d' A env outer base h₀ :=
  { h with dep := by have := h.dep; omega,un := by have := h.un; omega }
theorem CALL.more {d d' : Nat} {f : Addr} {args : List AV} {μ : List MO} {Q : AV → List MO → Prop} {X : Prop} (h : CALL g d f args μ Q X) (hd : d ≤ d') : CALL g d' f args μ Q X :=
  fun A env outer base h₀ L m cs im fz s vs Qc Ec hD => h A env outer base h₀ L m cs im fz s vs Qc Ec (hD.less hd)
theorem callWith_any {A : Around} {Ec : Value → Shared → Prop} {s : Shared} {env : Env} {pos : Pos} {f : Value} {first : List Value} {args : List Expr} {Q : Value → Shared → Prop} (X : g.K.In s.heap) (hk : keepIn g.K f = true)
    (hpl : (backTo pos (starEach args env)).any (·.1) = false) (hcons : ∀ e r,args = e :: r → starEach (e :: r) env = (false,eval e env) :: starEach r env)
    (h : wpAny (model g.prog g.w) A (spliced (backTo pos (starEach args env))) (fun vs s₁ => g.K.In s₁.heap ∧ wpAny (model g.prog g.w) A (call f (first ++ vs)) Q Ec s₁) Ec s) :
    wpAny (model g.prog g.w) A (callWith pos f first (backTo pos (starEach args env)) []) Q Ec s := by
  cases args with
  | nil =>
    refine callWith_K0 X hk ?_
    have : wpAny (model g.prog g.w) A (pure ([] : List Value)) (fun vs s₁ => g.K.In s₁.heap ∧ wpAny (model g.prog g.w) A (call f (first ++ vs)) Q Ec s₁) Ec s := h
    exact fun Γ p hΓ => (this Γ p hΓ).2 Γ p hΓ
  | cons e r =>
    refine callWith_K (h₀ := s.heap) X hk h (hcons e r rfl) ?_
    rw [hcons e r rfl] at hpl
    have : ((false,eval e env) :: starEach r env) = [(false,eval e env)] ++ starEach r env := rfl
    simpa [backTo] using hpl
noncomputable def pCallF (f : Addr) (R : PTL) : PT := fun d X loc μ Q => R d X loc μ fun vs μ1 => CALL g d f vs μ1 Q X
theorem ev_callF {x : Str} {np pos : Pos} {args : List Expr} {f : Addr} {R : PTL} (ok : fi.Ok) (hk : fi.scope.names.lookup x = some .globalImplicit) (hd : (x == ("__debug__" : Str)) = false) (hv : nsIn g.K mainGlobals x = some (some (.ref f)))
    (hkeep : keepIn g.K (.ref f) = true) (has : LV g fi pos args R) (hpl : ∀ env,(backTo pos (starEach args env)).any (·.1) = false) (hcons : ∀ env e r,args = e :: r → starEach (e :: r) env = (false,eval e env) :: starEach r env) :
    EV g fi (.Call (.Name x np) args [] pos) (pCallF (g := g) f R) := by
  intro d X loc μ Q h A outer base h₀ L m cs im fz s Qc Ec hD F LRR D tk hQ hE
  refine Call_ (name_K F hD.X (topRead_of hD.T) hv ?_ ok.kind hk hd) rfl
  refine callWith_any (hD.X.keeps F.keep) hkeep (hpl _) (hcons _) ?_
  refine has d X loc μ _ h A outer base h₀ L m cs im fz s _ Ec hD F LRR D tk (fun r1 b1 μ1 cs1 im1 h1 tk1 F1 L1 D1 t1 sb1 pr1 hr1 hq1 => ⟨hD.X.keeps F1.keep, ?_⟩) hE
  refine wpAny_call (hq1 A (fi.env L) outer base h₀ L m cs1 im1 fz _ r1 Qc Ec hD rfl ok.kind F1 D1 t1 hr1 (fun v b μ' cs' im' h' tk' F' D' t' sb pr hr q => ?_) (hE.mono sb1).1)
  exact hQ v b μ' cs' im' h' tk' F' (L1.mono sb pr) D' t' (sb1.trans sb) (pr1.trans pr) hr q
noncomputable def methNames : List String := ["is_sign","is_key","is_free","row","gather","refuse","run","end_of","bare","closing","quoted_word","number","value_of","mark","here","go","is_over","is_one_of","take_key","take_sign","need_sign","need_name",
  "transaction","begin","rollback","pragma","setting"]
noncomputable def mm (c : Nat) : Str := Str.ofString (methNames.getD c "")
theorem nm_mm : ∀ c,c < 12 → ∀ k,k < 27 → (nm c == mm k) = false := by decide +kernel
structure MethOk (g : GW) (C : Addr) (k : Nat) (f : Addr) : Prop where
  lt : k < 27
  get : plainGet g.K C (mm 0) = true
  find : findIn g.K (.ref C) (mm k) = some (some (.ref f))
  fn : isFn g.K (.ref f) = true
  keep : keepIn g.K (.ref f) = true
theorem getL_meth {es : List DictEntry} {k : Nat} (hk : k < 27) (h : ∀ e ∈ es,∃ c t,c < 12 ∧ e.key = .str (nm c) t) : W.getL (mm k) es = some none := by
  have h1 : es.find? (·.key.isStr (mm k)) = none := List.find?_eq_none.mpr fun e he => by
    obtain ⟨c,t,hc,hkey⟩ := h e he
    rw [hkey]
    show ¬ (nm c == mm k) = true
    rw [nm_mm c hc k hk]; decide
  have h2 : es.any (·.refKey) = false := by
    rw [List.any_eq_false]
    intro e he
    obtain ⟨c,t,hc,hkey⟩ := h e he
    simp [DictEntry.refKey,hkey]
  unfold W.getL
  rw [h1]
  simp only [h2,Bool.false_eq_true,if_false]
theorem PRf.keys {im : Led0} : ∀ {fs : List (Nat × PV)} {es : List DictEntry},PRf g im fs es → ∀ e ∈ es,∃ c t,c < 12 ∧ e.key = .str (nm c) t
  | [],_,h,e,he => by subst h; cases he
  | (c,x) :: fs,_,⟨v,t,r,h,hc,_,h2⟩,e,he => by
    subst h
    rcases List.mem_cons.mp he with rfl | he
    · exact ⟨c,t,hc,rfl⟩
    · exact PRf.keys h2 e he
theorem ARf.keys {im : Led0} {η : List Addr} : ∀ {fs : List (Nat × AV)} {es : List DictEntry},ARf g im η fs es → ∀ e ∈ es,∃ c t,c < 12 ∧ e.key = .str (nm c) t
  | [],_,h,e,he => by subst h; cases he
  | (c,x) :: fs,_,⟨v,t,r,h,hc,_,h2⟩,e,he => by
    subst h
    rcases List.mem_cons.mp he with rfl | he
    · exact ⟨c,t,hc,rfl⟩
    · exact ARf.keys h2 e he
noncomputable def clsV (μ : List MO) : AV → Option Addr
  | .pv (.inst C _) => some C
  | .mut i => match μ[i]? with
    | some (.inst C _) => some C
    | _ => none
  | .rd _ => some 263
  | _ => none
theorem meth_ok {A : Around} {Ec : Value → Shared → Prop} {s : Shared} {h₀ : Heap} {L : Addr} {m : Str → Option Value} {μ : List MO} {cs : List Cell} {im fz : Led0} {k : Nat} {a : AV} {va : Value} {C f : Addr} {pl : Sem Bool} {Q : Value × List Value → Shared → Prop}
    (M : MethOk g C k f) (h : clsV μ a = some C) (ra : AR g im (caddr cs) a va) (X : g.K.In h₀) (F : Fr h₀ L s.heap m) (D : Led g h₀ L s.heap μ cs im fz)
    (q : Q (.ref f,[va]) s) : wpAny (model g.prog g.w) A (getMethod va (mm k) pl) Q Ec s := by
  have go : ∀ (x dx : Addr) (es : List DictEntry) (n : Nat),va = .ref x → (x,instObj C dx) ∈ cobjs cs ++ (im ++ fz) → (dx,dictOf es n) ∈ cobjs cs ++ (im ++ fz) → (∀ e ∈ es,∃ c t,c < 12 ∧ e.key = .str (nm c) t) →
      wpAny (model g.prog g.w) A (getMethod va (mm k) pl) Q Ec s := fun x dx es n e h1 h2 hk => by
    subst e
    exact W.method_inst F X (InstAt.of_news D.N h1 h2) M.get M.find M.fn (getL_meth M.lt hk) q
  unfold clsV at h
  split at h
  · obtain ⟨x,dx,es,n,rfl,h1,h2,hf⟩ := ra
    cases h
    exact go x dx es n rfl (D.im_in h1) (D.im_in h2) hf.keys
  · obtain ⟨x,hx,rfl⟩ := ra
    split at h
    · rename_i i C' fs hi
      cases h
      obtain ⟨a,dx,es,n,_,ha,h1,h2,_,hf⟩ := D.inst hi
      cases hx.symm.trans ha
      exact go _ dx es n rfl h1 h2 hf.keys
    · cases h
  · obtain ⟨x,dx,b,t,n,rfl,h1,h2,hb⟩ := ra
    cases h
    exact go x dx _ n rfl (D.im_in h1) (D.im_in h2) fun e he => by rw [List.mem_singleton.mp he]; exact ⟨9,t,by omega,rfl⟩
  · cases h
noncomputable def pMeth (C f : Addr) (P : PT) (R : PTL) : PT := fun d X loc μ Q => P d X loc μ fun a μ1 => clsV μ1 a = some C ∧ R d X loc μ1 fun vs μ2 => CALL g d f (a :: vs) μ2 Q X
theorem ev_meth {o : Expr} {name : Str} {apos pos : Pos} {args : List Expr} {C f : Addr} {P : PT} {R : PTL} (k : Nat) (ok : fi.Ok) (M : MethOk g C k f) (hn : name = mm k) (ho : EV g fi o P) (has : LV g fi pos args R) (pl : Env → Sem Bool)
    (hs : ∀ env,eval (.Call (.Attribute o name apos) args [] pos) env = (do let ov ← eval o env; standAt apos.atName; let (f,first) ← holding [ov] (getMethod ov name (pl env)); callWith pos f first (backTo pos (starEach args env)) []))
    (hpl : ∀ env,(backTo pos (starEach args env)).any (·.1) = false) (hcons : ∀ env e r,args = e :: r → starEach (e :: r) env = (false,eval e env) :: starEach r env) :
    EV g fi (.Call (.Attribute o name apos) args [] pos) (pMeth (g := g) C f P R) := by
  intro d X loc μ Q h A outer base h₀ L m cs im fz s Qc Ec hD F LRR D tk hQ hE
  refine MethodCall_ (pl := pl (fi.env L)) (ho d X loc μ _ h A outer base h₀ L m cs im fz s _ Ec hD F LRR D tk (fun r1 b1 μ1 cs1 im1 h1 tk1 F1 L1 D1 t1 sb1 pr1 hr1 hq1 => ?_) hE) (hs _)
  obtain ⟨hcl,hq1⟩ := hq1
  rw [hn]
  refine meth_ok M hcl hr1 hD.X F1 D1 ?_
  refine callWith_any (hD.X.keeps F1.keep) M.keep (hpl _) (hcons _) ?_
  refine has d X loc μ1 _ hq1 A outer base h₀ L m cs1 im1 fz _ _ Ec hD F1 L1 D1 t1 (fun r2 b2 μ2 cs2 im2 h2 tk2 F2 L2 D2 t2 sb2 pr2 hr2 hq2 => ⟨hD.X.keeps F2.keep, ?_⟩) (hE.mono sb1)
  refine wpAny_call (hq2 A (fi.env L) outer base h₀ L m cs2 im2 fz _ _ Qc Ec hD rfl ok.kind F2 D2 t2 ⟨r1,r2,rfl,AR.mono sb2 pr2 hr1,hr2⟩ (fun v b μ' cs' im' h' tk' F' D' t' sb pr hr q => ?_) (hE.mono (sb1.trans sb2)).1)
  exact hQ v b μ' cs' im' h' tk' F' (L2.mono sb pr) D' t' ((sb1.trans sb2).trans sb) ((pr1.trans pr2).trans pr) hr q
end
end Mine
end
section
namespace Mine
noncomputable abbrev PTS := Nat → Prop → Loc → List MO → (Loc → List MO → Prop) → (AV → List MO → Prop) → Prop
noncomputable def TS (g : GW) (fi : FI) (d : Nat) (X : Prop) (loc : Loc) (μ : List MO) (t : Addr → Sem Flow) (QN : Loc → List MO → Prop) (QR : AV → List MO → Prop) : Prop :=
  ∀ (A : Around) (outer : List Env) (base h₀ : Heap) (L : Addr) (m : Str → Option Value) (cs : List Cell) (im fz : Led0) (s : Shared) (Qc : Flow → Shared → Prop) (Ec : Value → Shared → Prop),
    Dyn g d A (fi.env L) outer base h₀ → Fr h₀ L s.heap m → LR g im (caddr cs) fi.names loc m → Led g h₀ L s.heap μ cs im fz → 0 < s.toks →
    (∀ loc' μ' cs' im' h' tk' m',Fr h₀ L h' m' → LR g im' (caddr cs') fi.names loc' m' → Led g h₀ L h' μ' cs' im' fz → 0 < tk' → Sub im im' → Pre (caddr cs) (caddr cs') → QN loc' μ' → Qc .next { s with heap := h',toks := tk' }) →
    (∀ v b μ' cs' im' h' tk' m',Fr h₀ L h' m' → Led g h₀ L h' μ' cs' im' fz → 0 < tk' → Sub im im' → Pre (caddr cs) (caddr cs') → AR g im' (caddr cs') b v → QR b μ' → Qc (.ret v) { s with heap := h',toks := tk' }) →
    EXPT fi.rz base h₀ (fi.env L) outer L im fz X Ec s → wpAny (model g.prog g.w) A (t L) Qc Ec s
noncomputable def SV (g : GW) (fi : FI) (st : Stmt) (P : PTS) : Prop := ∀ d X loc μ QN QR,P d X loc μ QN QR → TS g fi d X loc μ (fun L => exec st (fi.env L)) QN QR
noncomputable def SVs (g : GW) (fi : FI) (sts : List Stmt) (P : PTS) : Prop := ∀ d X loc μ QN QR,P d X loc μ QN QR → TS g fi d X loc μ (fun L => execs sts (fi.env L)) QN QR
theorem LR.set {g : GW} {im : Led0} {η : List Addr} {names : List Str} {loc : Loc} {m : Str → Option Value} (h : LR g im η names loc m) {i : Nat} {x : Str} {av : AV} {v : Value} (hn : names[i]? = some x) (nd : names.Nodup) (hr : AR g im η av v) :
    LR g im η names (loc.set i (some av)) (fun y => if y = x then some v else m y) := by
  intro j y av' hj hl
  by_cases e : i = j
  · subst e
    have hy : y = x := by rw [hn] at hj; exact (Option.some.inj hj).symm
    rw [List.getElem?_set] at hl
    simp only [if_true] at hl
    split at hl
    · cases hl; exact ⟨v,if_pos hy,hr⟩
    · cases hl
  · rw [List.getElem?_set_ne e] at hl
    have hy : y ≠ x := fun q => by
      subst q
      have h1 : i < names.length := (List.getElem?_eq_some_iff.mp hn).1
      exact e ((List.getElem?_inj h1 nd).mp (hn.trans hj.symm))
    obtain ⟨u,hu,hr'⟩ := h j y av' hj hl
    exact ⟨u,(if_neg hy).trans hu,hr'⟩
section
variable {g : GW} {fi : FI}
theorem sv_nil : SVs g fi [] fun _ _ loc μ QN _ => QN loc μ :=
  fun d X loc μ QN QR h A outer base h₀ L m cs im fz s Qc Ec hD F LRR D tk hN hR hE =>
    wpAny_execs_nil (hN loc μ cs im s.heap s.toks m F LRR D tk Sub.refl Pre.refl h)
noncomputable def sCons (P R : PTS) : PTS := fun d X loc μ QN QR => P d X loc μ (fun loc' μ' => R d X loc' μ' QN QR) QR
theorem sv_cons {st : Stmt} {rest : List Stmt} {P R : PTS} (h1 : SV g fi st P) (h2 : SVs g fi rest R) : SVs g fi (st :: rest) (sCons P R) := by
  intro d X loc μ QN QR h A outer base h₀ L m cs im fz s Qc Ec hD F LRR D tk hN hR hE
  refine wpAny_execs_cons (h1 d X loc μ _ _ h A outer base h₀ L m cs im fz s _ Ec hD F LRR D tk (fun loc' μ' cs' im' h' tk' m' F' L' D' t' sb pr q => ?_) (fun v b μ' cs' im' h' tk' m' F' D' t' sb pr hr q => ?_) hE)
  · exact h2 d X loc' μ' _ _ q A outer base h₀ L m' cs' im' fz _ Qc Ec hD F' L' D' t'
      (fun loc2 μ2 cs2 im2 h2' tk2 m2 F2 L2 D2 t2 sb2 pr2 q2 => hN loc2 μ2 cs2 im2 h2' tk2 m2 F2 L2 D2 t2 (sb.trans sb2) (pr.trans pr2) q2)
      (fun v b μ2 cs2 im2 h2' tk2 m2 F2 D2 t2 sb2 pr2 hr2 q2 => hR v b μ2 cs2 im2 h2' tk2 m2 F2 D2 t2 (sb.trans sb2) (pr.trans pr2) hr2 q2) (hE.mono sb)
  · exact hR v b μ' cs' im' h' tk' m' F' D' t' sb pr hr q
noncomputable def sRet (P : PT) : PTS := fun d X loc μ _ QR => P d X loc μ QR
theorem sv_ret {e : Expr} {pos : Pos} {P : PT} (he : EV g fi e P) : SV g fi (.Return (some e) pos) (sRet P) := by
  intro d X loc μ QN QR h A outer base h₀ L m cs im fz s Qc Ec hD F LRR D tk hN hR hE
  exact wpAny_Return_some (he d X loc μ _ h A outer base h₀ L m cs im fz s _ Ec hD F LRR D tk (fun r1 b1 μ1 cs1 im1 h1 tk1 F1 L1 D1 t1 sb1 pr1 hr1 hq1 => hR r1 b1 μ1 cs1 im1 h1 tk1 m F1 D1 t1 sb1 pr1 hr1 hq1) hE)
theorem sv_retNone {pos : Pos} : SV g fi (.Return none pos) fun _ _ _ μ _ QR => QR (.pv .none) μ := by
  intro d X loc μ QN QR h A outer base h₀ L m cs im fz s Qc Ec hD F LRR D tk hN hR hE
  exact wpAny_Return_none (hR .none (.pv .none) μ cs im s.heap s.toks m F D tk Sub.refl Pre.refl rfl h)
noncomputable def sAsg (i : Nat) (P : PT) : PTS := fun d X loc μ QN _ => P d X loc μ fun v μ' => QN (loc.set i (some v)) μ'
theorem sv_asg {x : Str} {p' pos : Pos} {e : Expr} {P : PT} (i : Nat) (ok : fi.Ok) (hn : fi.names[i]? = some x) (hk : fi.scope.names.lookup x = some .local) (he : EV g fi e P)
    (hs : ∀ env,swapsWith e (some (.Name x p')) pos.line env = pure false) : SV g fi (.Assign [.Name x p'] e pos) (sAsg i P) := by
  intro d X loc μ QN QR h A outer base h₀ L m cs im fz s Qc Ec hD F LRR D tk hN hR hE
  refine wpAny_Assign_Name (he d X loc μ _ h A outer base h₀ L m cs im fz s _ Ec hD F LRR D tk (fun r1 b1 μ1 cs1 im1 h1 tk1 F1 L1 D1 t1 sb1 pr1 hr1 hq1 => ?_) hE) (hs _)
  exact stN F1 D1.N (fun h' F' N' => hN _ μ1 cs1 im1 h' (tk1 + 1) _ F' (L1.set hn ok.nd hr1) (D1.of_news N') (Nat.succ_pos _) sb1 pr1 hq1) ok.kind hk
noncomputable def sIf (T : PTB) (P R : PTS) : PTS := fun d X loc μ QN QR => T d X loc μ fun b μ' => sel b (P d X loc μ' QN QR) (R d X loc μ' QN QR)
theorem sv_if {t : Expr} {b1 b2 : List Stmt} {pos : Pos} {T : PTB} {P R : PTS} (ht : BV g fi t T) (h1 : SVs g fi b1 P) (h2 : SVs g fi b2 R) : SV g fi (.If t b1 b2 pos) (sIf T P R) := by
  intro d X loc μ QN QR h A outer base h₀ L m cs im fz s Qc Ec hD F LRR D tk hN hR hE
  refine wpAny_If (ht d X loc μ _ h A outer base h₀ L m cs im fz s _ Ec hD F LRR D tk (fun r1 b1' μ1 cs1 im1 h1' tk1 F1 L1 D1 t1 sb1 pr1 hr1 hq1 => ?_) hE)
  cases (show r1 = b1' from hr1)
  have N1 := fun loc2 μ2 cs2 im2 h2' tk2 m2 F2 L2 D2 t2 (sb2 : Sub im1 im2) (pr2 : Pre (caddr cs1) (caddr cs2)) q2 => hN loc2 μ2 cs2 im2 h2' tk2 m2 F2 L2 D2 t2 (sb1.trans sb2) (pr1.trans pr2) q2
  have R1 := fun v b μ2 cs2 im2 h2' tk2 m2 F2 D2 t2 (sb2 : Sub im1 im2) (pr2 : Pre (caddr cs1) (caddr cs2)) hr2 q2 => hR v b μ2 cs2 im2 h2' tk2 m2 F2 D2 t2 (sb1.trans sb2) (pr1.trans pr2) hr2 q2
  cases r1 with
  | true =>
    simp only [if_true]
    exact h1 d X loc μ1 _ _ (hq1.t rfl) A outer base h₀ L m cs1 im1 fz _ _ Ec hD F1 L1 D1 t1 N1 R1 (hE.mono sb1)
  | false =>
    simp only [Bool.false_eq_true,if_false]
    exact h2 d X loc μ1 _ _ (hq1.f rfl) A outer base h₀ L m cs1 im1 fz _ _ Ec hD F1 L1 D1 t1 N1 R1 (hE.mono sb1)
noncomputable def setV (μ : List MO) (c : Nat) (v : AV) : AV → Option (List MO)
  | .mut i => match μ[i]? with
    | some (.inst C fs) => if clsList.contains C ∧ fs.length ≤ 800 then some (μ.set i (.inst C (putF c v fs))) else none
    | _ => none
  | _ => none
noncomputable def sAttr (c : Nat) (O P : PT) : PTS := fun d X loc μ QN _ => P d X loc μ fun v μ1 => O d X loc μ1 fun o μ2 => match setV μ2 c v o with
  | some μ3 => QN loc μ3
  | none => False
theorem ARf.length {im : Led0} {η : List Addr} : ∀ {fs : List (Nat × AV)} {es : List DictEntry},ARf g im η fs es → fs.length = es.length
  | [],_,e => by subst e; rfl
  | (_,_) :: _,_,⟨v,t,r,e,_,_,h2⟩ => by subst e; rw [List.length_cons,List.length_cons,ARf.length h2]
theorem sv_attr {o e : Expr} {attr : Str} {p' pos : Pos} {O P : PT} (c : Nat) (KO : KOk g) (hc : c < 12) (hn : attr = nm c) (ho : EV g fi o O) (he : EV g fi e P)
    (hs : ∀ env,swapsWith e (some (.Attribute o attr p')) pos.line env = pure false) : SV g fi (.Assign [.Attribute o attr p'] e pos) (sAttr c O P) := by
  intro d X loc μ QN QR h A outer base h₀ L m cs im fz s Qc Ec hD F LRR D tk hN hR hE
  refine plainObj_wpAny_Assign_Attribute (he d X loc μ _ h A outer base h₀ L m cs im fz s _ Ec hD F LRR D tk (fun r1 b1 μ1 cs1 im1 h1 tk1 F1 L1 D1 t1 sb1 pr1 hr1 hq1 => ?_) hE) (hs _)
  refine ho d X loc μ1 _ hq1 A outer base h₀ L m cs1 im1 fz _ _ Ec hD F1 L1 D1 t1 (fun r2 b2 μ2 cs2 im2 h2 tk2 F2 L2 D2 t2 sb2 pr2 hr2 hq2 => ?_) (hE.mono sb1)
  have hr1' := AR.mono sb2 pr2 hr1
  split at hq2
  · rename_i μ3 hset
    unfold setV at hset
    split at hset
    · obtain ⟨x,hx,rfl⟩ := hr2
      split at hset
      · rename_i i C fs hi
        split at hset
        · rename_i hC
          cases hset
          obtain ⟨a,dx,es,n,hcell,ha,h1',h2',_,hf⟩ := D2.inst hi
          cases hx.symm.trans ha
          have KC := KO.cls C (List.contains_iff_mem.mp hC.1)
          have hlen := putL_length (nm c) (PyData.keyHash g.w.params (nm c)) (.str (nm c) (tk2 + 1)) r1 es
          have hput := hf.put hc hr1' (tk := tk2 + 1)
          have hl2 := ARf.length hf
          have hl3 := hC.2
          have hsome : (W.getL (nm c) es).isSome = true := by
            cases hl : lookF c fs with
            | none => rw [(hf.getL hc).2 hl]; rfl
            | some y => obtain ⟨u,_,hu⟩ := (hf.getL hc).1 y hl; rw [hu]; rfl
          have htk : takerIn g.K C (nm c) = some none := by unfold takerIn; rw [KC.none c hc]; rfl
          rw [hn]
          generalize hes : putL (nm c) (PyData.keyHash g.w.params (nm c)) (.str (nm c) (tk2 + 1)) r1 es = es' at hlen hput
          generalize hnn : putN (nm c) es n = n'
          have hadr := caddr_set (c' := Cell.inst x C dx es' n') hcell rfl
          have U := upd_cell (c' := Cell.inst x C dx es' n') hcell (pre := [(x,instObj C dx)]) (post := []) rfl rfl D2.nd D2.dj
          refine set_dict F2 hD.X D2.N (InstAt.of_news D2.N h1' h2') rfl KC.set KC.over htk KC.dict hsome (es' := es') (n' := n') (by rw [← hes,← hnn]) U (by omega) (fun h' F' N' => ?_)
          exact hN loc _ (cs2.set _ (Cell.inst x C dx es' n')) im2 h' (tk2 + 2) m F' (L2.mono Sub.refl (by rw [hadr]; exact Pre.refl)) (D2.put (c' := Cell.inst x C dx es' n') (o := MO.inst C (putF c b1 fs)) hcell rfl rfl N' (show C = C ∧ _ ∧ _ from ⟨rfl,by omega,hput⟩)) (Nat.succ_pos _) (sb1.trans sb2) ((pr1.trans pr2).trans (by rw [hadr]; exact Pre.refl)) hq2
        · cases hset
      · cases hset
    · cases hset
  · exact hq2.elim
theorem PRs.set {im : Led0} {p : PV} {v : Value} (hp : PR g im p v) : ∀ {ps : List PV} {vs : List Value} {i : Nat},PRs g im ps vs → PRs g im (ps.set i p) (vs.set i v)
  | [],_,_,e => by subst e; rfl
  | _ :: _,_,0,⟨w,r,e,h1,h2⟩ => by subst e; exact ⟨v,r,rfl,hp,h2⟩
  | _ :: _,_,i + 1,⟨w,r,e,h1,h2⟩ => by subst e; exact ⟨w,r.set i v,rfl,h1,PRs.set hp h2⟩
noncomputable def setItemV (μ : List MO) : AV → AV → AV → Option (List MO)
  | .pv p,.pv (.int n),.mut k => match μ[k]? with
    | some (.lst ps) => if 0 ≤ n ∧ n < ps.length ∧ n < 2 ^ 62 then some (μ.set k (.lst (ps.set n.toNat p))) else none
    | _ => none
  | _,_,_ => none
theorem ki_setL_some {v : Value} : ∀ {l : List Value} {k : Nat},k < l.length → ki_setL l k v = some (l.set k v)
  | x :: l,0,_ => rfl
  | x :: l,k + 1,h => by
    unfold ki_setL
    rw [ki_setL_some (l := l) (k := k) (by simpa using h)]; rfl
noncomputable def sItem (O I P : PT) : PTS := fun d X loc μ QN _ => P d X loc μ fun v μ1 => O d X loc μ1 fun o μ2 => I d X loc μ2 fun i μ3 => match setItemV μ3 v i o with
  | some μ4 => QN loc μ4
  | none => False
theorem listObj_setI {h h' : Heap} {a : Addr} {vs : List Value} {n : Nat} {i : Nat} {v : Value} (h1 : h.get? a = some (W.listOf vs.toArray n)) (h2 : h'.IsList a (vs.toArray.setIfInBounds i v)) : True := trivial
theorem sv_item {o i e : Expr} {p' pos : Pos} {O I P : PT} (ho : EV g fi o O) (hi : EV g fi i I) (he : EV g fi e P)
    (hs : ∀ env,swapsWith e (some (.Subscript o i p')) pos.line env = pure false) : SV g fi (.Assign [.Subscript o i p'] e pos) (sItem O I P) := by
  intro d X loc μ QN QR h A outer base h₀ L m cs im fz s Qc Ec hD F LRR D tk hN hR hE
  refine wpAny_Assign_Subscript (he d X loc μ _ h A outer base h₀ L m cs im fz s _ Ec hD F LRR D tk (fun r1 b1 μ1 cs1 im1 h1 tk1 F1 L1 D1 t1 sb1 pr1 hr1 hq1 => ?_) hE) (hs _)
  refine ho d X loc μ1 _ hq1 A outer base h₀ L m cs1 im1 fz _ _ Ec hD F1 L1 D1 t1 (fun r2 b2 μ2 cs2 im2 h2 tk2 F2 L2 D2 t2 sb2 pr2 hr2 hq2 => ?_) (hE.mono sb1)
  refine hi d X loc μ2 _ hq2 A outer base h₀ L m cs2 im2 fz _ _ Ec hD F2 L2 D2 t2 (fun r3 b3 μ3 cs3 im3 h3 tk3 F3 L3 D3 t3 sb3 pr3 hr3 hq3 => ?_) (hE.mono (sb1.trans sb2))
  have hr1' := AR.mono (sb2.trans sb3) (pr2.trans pr3) hr1
  have hr2' := AR.mono sb3 pr3 hr2
  split at hq3
  · rename_i μ4 hst
    unfold setItemV at hst
    split at hst
    · rename_i p n k
      obtain ⟨x,hx,rfl⟩ := hr2'
      obtain ⟨t,rfl⟩ := hr3
      split at hst
      · rename_i ps hk
        split at hst
        · rename_i hb
          cases hst
          obtain ⟨a,vs,c,hcell,ha,hm,hr⟩ := D3.lst hk
          cases hx.symm.trans ha
          have U := upd_cell (c' := Cell.lst x (vs.set n.toNat r1) c) hcell (pre := []) (post := []) rfl rfl D3.nd D3.dj
          refine ki_set F3 D3.N hb.1 (by omega) (q := vs.set n.toNat r1) (by rw [List.toList_toArray]; exact ki_setL_some (by rw [← hr.length]; have := hb.2.1; omega)) U fun h' F' N' => ?_
          have hadr := caddr_set (c' := Cell.lst x (vs.set n.toNat r1) c) hcell rfl
          exact hN loc _ (cs3.set k (Cell.lst x (vs.set n.toNat r1) c)) im3 h' tk3 m F' (L3.mono Sub.refl (by rw [hadr]; exact Pre.refl)) (D3.put (c' := Cell.lst x (vs.set n.toNat r1) c) (o := MO.lst (ps.set n.toNat p)) hcell rfl rfl N' (PRs.set hr1' hr)) t3 ((sb1.trans sb2).trans sb3) (((pr1.trans pr2).trans pr3).trans (by rw [hadr]; exact Pre.refl)) hq3
        · cases hst
      · cases hst
    · cases hst
  · exact hq3.elim
noncomputable def plainV : AV → Bool
  | .pv .none => true
  | .pv (.bool _) => true
  | .pv (.int _) => true
  | .pv (.str _) => true
  | _ => false
noncomputable def sExpr (P : PT) : PTS := fun d X loc μ QN _ => P d X loc μ fun v μ' => plainV v = true ∧ QN loc μ'
theorem sv_expr {e : Expr} {pos : Pos} {P : PT} (he : EV g fi e P) (ok : fi.Ok) (hs : ∀ env,swapsWith e none pos.line env = pure false) : SV g fi (.Expr e pos) (sExpr P) := by
  intro d X loc μ QN QR h A outer base h₀ L m cs im fz s Qc Ec hD F LRR D tk hN hR hE
  refine wpAny_Expr (he d X loc μ _ h A outer base h₀ L m cs im fz s _ Ec hD F LRR D tk (fun r1 b1 μ1 cs1 im1 h1 tk1 F1 L1 D1 t1 sb1 pr1 hr1 hq1 => ?_) hE) (by show (fi.scope.kind == .module && _) = false; rw [ok.kind]; rfl) (hs _)
  have q := hN loc μ1 cs1 im1 h1 tk1 m F1 L1 D1 t1 sb1 pr1 hq1.2
  have hp := hq1.1
  unfold plainV at hp
  split at hp
  · cases hr1; exact q
  · cases hr1; exact q
  · obtain ⟨t,rfl⟩ := hr1; exact q
  · obtain ⟨t,rfl⟩ := hr1; exact q
  · cases hp
noncomputable def sWhile (T : PTB) (B : PTS) : PTS := fun d X loc μ QN QR => ∃ I : Nat → Loc → List MO → Prop,(∃ n,I n loc μ) ∧
  ∀ n loc' μ',I n loc' μ' → T d False loc' μ' fun b μ1 => sel b (B d False loc' μ1 (fun loc2 μ2 => ∃ k,k < n ∧ I k loc2 μ2) QR) (QN loc' μ1)
theorem sv_while {t : Expr} {body : List Stmt} {pos : Pos} {T : PTB} {B : PTS} (ht : BV g fi t T) (hb : SVs g fi body B) : SV g fi (.While t body [] pos) (sWhile T B) := by
  intro d X loc μ QN QR h A outer base h₀ L m cs im fz s Qc Ec hD F LRR D tk hN hR hE
  obtain ⟨I,⟨n,hI⟩,hturn⟩ := h
  refine wpAny_While (codeAny_whileLoop (fun n s' => ∃ loc' μ' m' cs' im' h' tk',s' = { s with heap := h',toks := tk' } ∧ Fr h₀ L h' m' ∧ LR g im' (caddr cs') fi.names loc' m' ∧ Led g h₀ L h' μ' cs' im' fz ∧ 0 < tk' ∧ Sub im im' ∧ Pre (caddr cs) (caddr cs') ∧ I n loc' μ') ?_ n
    ⟨loc,μ,m,cs,im,s.heap,s.toks,rfl,F,LRR,D,tk,Sub.refl,Pre.refl,hI⟩)
  rintro n s' ⟨loc',μ',m',cs',im',h',tk',rfl,F',L',D',t',sb,pr,hI'⟩
  refine ht d False loc' μ' _ (hturn n loc' μ' hI') A outer base h₀ L m' cs' im' fz _ _ _ hD F' L' D' t' (fun r1 b1 μ1 cs1 im1 h1 tk1 F1 L1 D1 t1 sb1 pr1 hr1 hq1 => ?_) EXPT.no
  cases (show r1 = b1 from hr1)
  cases r1 with
  | true =>
    simp only [if_true]
    refine hb d False loc' μ1 _ _ (hq1.t rfl) A outer base h₀ L m' cs1 im1 fz _ _ _ hD F1 L1 D1 t1 (fun loc2 μ2 cs2 im2 h2' tk2 m2 F2 L2 D2 t2 sb2 pr2 q2 => ?_) (fun v b μ2 cs2 im2 h2' tk2 m2 F2 D2 t2 sb2 pr2 hr2 q2 => ?_) EXPT.no
    · obtain ⟨k,hk,hIk⟩ := q2
      exact ⟨k,hk,loc2,μ2,m2,cs2,im2,h2',tk2,rfl,F2,L2,D2,t2,(sb.trans sb1).trans sb2,(pr.trans pr1).trans pr2,hIk⟩
    · exact hR v b μ2 cs2 im2 h2' tk2 m2 F2 D2 t2 ((sb.trans sb1).trans sb2) ((pr.trans pr1).trans pr2) hr2 q2
  | false =>
    simp only [Bool.false_eq_true,if_false]
    exact wpAny_execs_nil (hN loc' μ1 cs1 im1 h1 tk1 m' F1 L1 D1 t1 (sb.trans sb1) (pr.trans pr1) (hq1.f rfl))
end
end Mine
end
section
namespace Mine
noncomputable def belowA (n : Nat) : AV → Bool
  | .pv _ => true
  | .mut i => decide (i < n)
  | .rd i => decide (i < n)
noncomputable def belowM (n : Nat) : MO → Bool
  | .inst _ fs => fs.all fun p => belowA n p.2
  | .lst _ => true
section
variable {g : GW}
theorem AR.cut {im : Led0} {η : List Addr} {n : Nat} {x : AV} {v : Value} (h : AR g im η x v) (hb : belowA n x = true) : AR g im (η.take n) x v := by
  cases x with
  | pv p => exact h
  | «mut» i =>
    obtain ⟨a,ha,e⟩ := h
    exact ⟨a,by rw [List.getElem?_take_of_lt (of_decide_eq_true hb)]; exact ha,e⟩
  | rd i =>
    obtain ⟨a,dx,b,t,k,e,h1,h2,h3⟩ := h
    exact ⟨a,dx,b,t,k,e,h1,h2,by rw [List.getElem?_take_of_lt (of_decide_eq_true hb)]; exact h3⟩
theorem ARf.cut {im : Led0} {η : List Addr} {n : Nat} : ∀ {fs : List (Nat × AV)} {es : List DictEntry},ARf g im η fs es → (fs.all fun p => belowA n p.2) = true → ARf g im (η.take n) fs es
  | [],_,e,_ => e
  | (_,_) :: _,_,⟨v,t,r,e,hc,h1,h2⟩,hb => by
    rw [List.all_cons,Bool.and_eq_true] at hb
    exact ⟨v,t,r,e,hc,h1.cut hb.1,ARf.cut h2 hb.2⟩
theorem MR.cut {im : Led0} {η : List Addr} {n : Nat} {o : MO} {c : Cell} (h : MR g im η o c) (hb : belowM n o = true) : MR g im (η.take n) o c := by
  cases o with
  | inst C fs => cases c with
    | inst a C' dx es k => exact ⟨h.1,h.2.1,h.2.2.cut hb⟩
    | lst => exact h.elim
  | lst xs => cases c with
    | inst => exact h.elim
    | lst a vs k => exact h
theorem MRs.cut {im : Led0} {η : List Addr} {n : Nat} : ∀ {k : Nat} {os : List MO} {cs : List Cell},MRs g im η os cs → (os.take k).all (belowM n) = true → MRs g im (η.take n) (os.take k) (cs.take k)
  | 0,_,_,_,_ => by simp only [List.take_zero]; rfl
  | k + 1,[],_,e,_ => by subst e; rfl
  | k + 1,_ :: _,_,⟨c,r,e,h1,h2⟩,hb => by
    subst e
    rw [List.take_succ_cons,List.all_cons,Bool.and_eq_true] at hb
    exact ⟨c,r.take k,rfl,h1.cut hb.1,MRs.cut h2 hb.2⟩
theorem cobjs_take_drop {cs : List Cell} (n : Nat) : cobjs cs = cobjs (cs.take n) ++ cobjs (cs.drop n) := by rw [← cobjs_append,List.take_append_drop]
theorem Led.cut {h₀ h : Heap} {L : Addr} {μ : List MO} {cs : List Cell} {im fz : Led0} (D : Led g h₀ L h μ cs im fz) (n : Nat) (hb : (μ.take n).all (belowM n) = true) : Led g h₀ L h (μ.take n) (cs.take n) (cobjs (cs.drop n) ++ im) fz := by
  have hnd := D.nd
  rw [cobjs_take_drop n,List.map_append] at hnd
  have hnd := List.nodup_append.mp hnd
  refine ⟨fun p hp => D.N p ?_,hnd.1,fun p hp q hq => ?_,fun p hp q hq => ?_, ?_⟩
  · rw [cobjs_take_drop n]
    rcases List.mem_append.mp hp with hp | hp
    · exact List.mem_append_left _ (List.mem_append_left _ hp)
    · rcases List.mem_append.mp hp with hp | hp
      · rcases List.mem_append.mp hp with hp | hp
        · exact List.mem_append_left _ (List.mem_append_right _ hp)
        · exact List.mem_append_right _ (List.mem_append_left _ hp)
      · exact List.mem_append_right _ (List.mem_append_right _ hp)
  · rcases List.mem_append.mp hq with hq | hq
    · rcases List.mem_append.mp hq with hq | hq
      · exact hnd.2.2 p.1 (List.mem_map_of_mem hp) q.1 (List.mem_map_of_mem hq)
      · exact D.dj p (by rw [cobjs_take_drop n]; exact List.mem_append_left _ hp) q (List.mem_append_left _ hq)
    · exact D.dj p (by rw [cobjs_take_drop n]; exact List.mem_append_left _ hp) q (List.mem_append_right _ hq)
  · rcases List.mem_append.mp hp with hp | hp
    · exact D.dj p (by rw [cobjs_take_drop n]; exact List.mem_append_right _ hp) q (List.mem_append_right _ hq)
    · exact D.df p hp q hq
  · have e : caddr (cs.take n) = (caddr cs).take n := by unfold caddr; rw [List.map_take]
    rw [e]
    exact (MRs.cut D.R hb).mono (fun _ h => List.mem_append_right _ h) Pre.refl
theorem Pre.cut {η η' : List Addr} {n : Nat} (h : Pre η η') (hn : η.length ≤ n) : Pre η (η'.take n) := fun i a e => by
  have hi : i < η.length := (List.getElem?_eq_some_iff.mp e).1
  rw [List.getElem?_take_of_lt (by omega)]
  exact h i a e
structure FnAt (g : GW) (fi : FI) (params : Arguments) (body : List Stmt) (k : Nat) : Prop where
  at_ : ∃ oc od osl dV kV doc pm an ct name,g.K.lookup fi.f = some ⟨oc,od,.func (fnOf name fi.qual params body fi.scope dV kV doc pm an fi.cdv ct),osl⟩ ∧
    ∀ vs : List Value,vs.length = k → bindArgs (fnOf name fi.qual params body fi.scope dV kV doc pm an fi.cdv ct) ⟨vs,[]⟩ = pure ((fi.names.take k).zip vs)
  code : codeIn g.K fi.cdv fi.qual = true
  co : fi.scope.isCoroutine = false
  gen : fi.scope.isGenerator = false
  cell : ∀ x ∈ fi.scope.names,x.2 ≠ .cell
  loc : ∀ x ∈ fi.names.take k,fi.scope.names.lookup x = some .local
  le : k ≤ fi.names.length
  nl : fi.f ≠ 739
theorem lookup_zip {i : Nat} : ∀ {ks : List Str} {vs : List Value} {x : Str} {v : Value},ks.Nodup → ks[i]? = some x → vs[i]? = some v → ∀ r : List (Str × Value),(∀ p ∈ r,p.1 ≠ x) → ((ks.zip vs).reverse ++ r).lookup x = some v := by
  induction i with
  | zero =>
    intro ks vs x v nd hk hv r hr
    cases ks with
    | nil => cases hk
    | cons k ks =>
      cases vs with
      | nil => cases hv
      | cons u vs =>
        cases hk; cases hv
        rw [List.zip_cons_cons,List.reverse_cons,List.append_assoc,List.singleton_append]
        have hno : ∀ p ∈ (ks.zip vs).reverse,p.1 ≠ x := fun p hp e => by
          have h1 := List.mem_reverse.mp hp
          have h2 := (List.of_mem_zip (a := p.1) (b := p.2) h1).1
          rw [e] at h2
          exact (List.nodup_cons.mp nd).1 h2
        generalize (ks.zip vs).reverse = l at hno
        induction l with
        | nil => simp
        | cons q l ih =>
          have h1 : (x == q.1) = false := by simpa using fun e => hno q (.head _) e.symm
          rw [List.cons_append,List.lookup_cons,h1]
          exact ih fun p hp => hno p (.tail _ hp)
  | succ i ih =>
    intro ks vs x v nd hk hv r hr
    cases ks with
    | nil => cases hk
    | cons k ks =>
      cases vs with
      | nil => cases hv
      | cons u vs =>
        rw [List.zip_cons_cons,List.reverse_cons,List.append_assoc,List.singleton_append]
        have hk' : ks[i]? = some x := by simpa using hk
        refine ih (List.nodup_cons.mp nd).2 hk' (by simpa using hv) ((k,u) :: r) fun p hp => ?_
        rcases List.mem_cons.mp hp with rfl | hp
        · exact fun e => (List.nodup_cons.mp nd).1 (by have h9 := List.mem_of_getElem? hk'; rw [← (show k = x from e)] at h9; exact h9)
        · exact hr p hp
theorem ARs.get {im : Led0} {η : List Addr} : ∀ {xs : List AV} {vs : List Value} {i : Nat} {x : AV},ARs g im η xs vs → xs[i]? = some x → ∃ v,vs[i]? = some v ∧ AR g im η x v
  | _ :: _,_,0,_,⟨v,r,e,h1,h2⟩,h => by subst e; cases h; exact ⟨v,rfl,h1⟩
  | _ :: _,_,i + 1,_,⟨v,r,e,h1,h2⟩,h => by
    subst e
    obtain ⟨w,hw,hr⟩ := ARs.get (i := i) h2 (by simpa using h)
    exact ⟨w,by simpa using hw,hr⟩
theorem Led.base {h₀ g₁ h h₁ : Heap} {L L' : Addr} {μ : List MO} {cs : List Cell} {im fz : Led0} (D : Led g h₀ L h μ cs im fz) (N : News g₁ L' h₁ (cobjs cs ++ (im ++ fz))) : Led g g₁ L' h₁ μ cs im fz := ⟨N,D.nd,D.dj,D.df,D.R⟩
noncomputable def locs0 (fi : FI) (args : List AV) : Loc := args.map some ++ List.replicate (fi.names.length - args.length) none
noncomputable def pvFields : List (Nat × AV) → Option (List (Nat × PV))
  | [] => some []
  | (c,.pv p) :: r => (pvFields r).map ((c,p) :: ·)
  | _ :: _ => none
noncomputable def rdOf (n C : Nat) : List (Nat × AV) → Option AV
  | [(9,.mut j)] => if C = 263 ∧ j < n then some (.rd j) else none
  | _ => none
noncomputable def frzI (n C : Nat) (fs : List (Nat × AV)) : Option (List (Nat × PV)) → Option AV
  | some gs => some (.pv (.inst C gs))
  | none => rdOf n C fs
noncomputable def frzM (n : Nat) : MO → Option AV
  | .lst ps => some (.pv (.lst ps))
  | .inst C fs => frzI n C fs (pvFields fs)
noncomputable def frz (μ : List MO) (n : Nat) : AV → Option AV
  | .pv p => some (.pv p)
  | .mut i => if i < n then some (.mut i) else (μ[i]?).bind (frzM n)
  | .rd i => if i < n then some (.rd i) else none
theorem pvFields_rel {im : Led0} {η : List Addr} : ∀ {fs : List (Nat × AV)} {gs : List (Nat × PV)} {es : List DictEntry},pvFields fs = some gs → ARf g im η fs es → PRf g im gs es
  | [],_,_,h,e => by cases h; exact e
  | (c,.pv p) :: r,_,_,h,⟨v,t,w,e,hc,h1,h2⟩ => by
    obtain ⟨qs,hq,rfl⟩ := Option.map_eq_some_iff.mp h
    exact ⟨v,t,w,e,hc,h1,pvFields_rel hq h2⟩
  | (_,.mut _) :: _,_,_,h,_ => (nomatch h)
  | (_,.rd _) :: _,_,_,h,_ => (nomatch h)
theorem frz_rel {h₀ h : Heap} {L : Addr} {μ : List MO} {cs : List Cell} {im fz : Led0} (D : Led g h₀ L h μ cs im fz) {n : Nat} {b b' : AV} {v : Value} (hr : AR g im (caddr cs) b v) (hf : frz μ n b = some b') :
    AR g (cobjs (cs.drop n) ++ im) ((caddr cs).take n) b' v := by
  have sub : Sub im (cobjs (cs.drop n) ++ im) := fun _ h => List.mem_append_right _ h
  cases b with
  | pv p => cases hf; exact PR.mono sub hr
  | rd i =>
    have hf : (if i < n then some (AV.rd i) else none) = some b' := hf
    split at hf
    · rename_i hi; cases hf
      exact (hr.cut (n := n) (decide_eq_true hi)).mono sub Pre.refl
    · cases hf
  | «mut» i =>
    have hf : (if i < n then some (AV.mut i) else (μ[i]?).bind (frzM n)) = some b' := hf
    split at hf
    · rename_i hi; cases hf
      exact (hr.cut (n := n) (decide_eq_true hi)).mono sub Pre.refl
    · rename_i hi
      obtain ⟨a,ha,rfl⟩ := hr
      obtain ⟨o,ho,hf⟩ := Option.bind_eq_some_iff.mp hf
      have hin : ∀ c : Cell,cs[i]? = some c → ∀ p ∈ c.objs,p ∈ cobjs (cs.drop n) ++ im := fun c hc p hp => List.mem_append_left _ (List.mem_flatMap.mpr ⟨c,List.mem_of_getElem? (i := i - n) (by rw [List.getElem?_drop,Nat.add_sub_cancel' (by omega)]; exact hc),hp⟩)
      cases o with
      | lst ps =>
        obtain ⟨a',vs,k,hc,ha',_,hps⟩ := D.lst ho
        cases ha.symm.trans ha'
        cases hf
        exact ⟨a,vs,k,rfl,hin _ hc _ (.head _),PRs.mono sub hps⟩
      | inst C fs =>
        obtain ⟨a',dx,es,k,hc,ha',_,_,_,hfs⟩ := D.inst ho
        cases ha.symm.trans ha'
        have hf : frzI n C fs (pvFields fs) = some b' := hf
        generalize hg : pvFields fs = q at hf
        cases q with
        | some gs =>
          cases hf
          exact ⟨a,dx,es,k,rfl,hin _ hc _ (.head _),hin _ hc _ (.tail _ (.head _)),(pvFields_rel hg hfs).mono sub⟩
        | none =>
          have hf : rdOf n C fs = some b' := hf
          unfold rdOf at hf
          split at hf
          · rename_i j
            split at hf
            · rename_i hj
              cases hf
              obtain ⟨rfl,hj⟩ := hj
              obtain ⟨v,t,r,e,_,⟨b,hb,rfl⟩,e2⟩ := hfs
              cases e2
              subst e
              exact ⟨a,dx,b,t,k,rfl,hin _ hc _ (.head _),hin _ hc _ (.tail _ (.head _)),by rw [List.getElem?_take_of_lt hj]; exact hb⟩
            · cases hf
          · cases hf
structure Back (μ : List MO) (Q : AV → List MO → Prop) (b : AV) (μ' : List MO) : Prop where
  ex : ∃ n b',μ.length ≤ n ∧ frz μ' n b = some b' ∧ (μ'.take n).all (belowM n) = true ∧ Q b' (μ'.take n)
theorem leave_new316 {M : Model} {A : Around} {E : Value → Shared → Prop} {s' : Shared} {base g₁ h : Heap} {outer : List Env} {L a e : Addr} {m : Str → Option Value} {name : Str} {scope : Scope} {cd : Value} {Q : Unit → Shared → Prop} {news : Led0} {ob : Obj} {tp : Value}
    (K : Below A base outer g₁) (F : Fr g₁ L h m) (N : News g₁ L h news) (hnew : h.get? e = none) (hkeeps : ∀ b o,h.get? b = some o → s'.heap.get? b = some o)
    (he : s'.heap.get? e = some ob) (hcls : ob.cls = .ref 316) (hd : ob.data = .fields #[tp,.none,.none,.none,.bool false,.none])
    (hQ : ∀ h',RaisedSN base g₁ outer e (.ref 316) news h' → g₁.UpToSlots h' → Q () { s' with heap := h' }) (hk : scope.kind = .function) :
    wpAny M (A.deeper (envOf name scope L a cd)) (leaving (envOf name scope L a cd) (.ref e)) Q E s' := by
  have K' := K.push (name := name) (a := a) (cd := cd) F hk
  have hin : ∀ env ∈ (envOf name scope L a cd :: outer),∀ b,env.frame = some b → b ∈ (envOf name scope L a cd :: outer).filterMap (·.frame) := fun env he b hb => List.mem_filterMap.mpr ⟨env,he,hb⟩
  have st : base.StaysIn (hideAll h ((envOf name scope L a cd :: outer).filterMap (·.frame))) := fun b o q => hideAll_get _ (K'.stays b o q) fun hm => by
    rw [(K'.frames.mem hm).1] at q; cases q
  have sg : ∀ b o,g₁.get? b = some o → b ∉ outer.filterMap (·.frame) → (hideAll h ((envOf name scope L a cd :: outer).filterMap (·.frame))).get? b = some o := fun b o q nm => hideAll_get _ (F.keep b o q) fun hm => by
    rcases kts_mem hm with z | z
    · rw [z,kts_self F] at q
      cases q
    · exact nm z
  have hl : ∀ q ∈ news,(hideAll h ((envOf name scope L a cd :: outer).filterMap (·.frame))).get? q.1 = some q.2 ∧ g₁.get? q.1 = none ∧ base.get? q.1 = none := fun q hq => by
    refine ⟨hideAll_get _ (N q hq).1 fun hm => ?_,(N q hq).2.2,fresh_of_stays K.stays (N q hq).2.2⟩
    obtain ⟨env,he,hf⟩ := List.mem_filterMap.mp hm
    rcases List.mem_cons.mp he with rfl | he
    · exact (N q hq).2.1 (Option.some.inj hf).symm
    · obtain ⟨o,ho,_⟩ := (K.frames.mem (List.mem_filterMap.mpr ⟨env,he,hf⟩)).2
      rw [(N q hq).2.2] at ho; cases ho
  have hen : (hideAll h ((envOf name scope L a cd :: outer).filterMap (·.frame))).get? e = none := by
    cases q : (hideAll h ((envOf name scope L a cd :: outer).filterMap (·.frame))).get? e with
    | none => rfl
    | some o => have := of_hideAll _ q; rw [hnew] at this; cases this
  refine wpAny_leaving_firstW (a0 := tp) K'.stack ((funFrames_hide K'.frames hin).of_keeps fun b o hb _ => ⟨o,hkeeps b o hb,rfl⟩) rfl he (fun b o hb => hkeeps b o (of_hideAll _ hb)) hen hd rfl rfl fun h' hL => ?_
  obtain ⟨k1,⟨_,_,k2⟩,k3,k4⟩ := hL
  exact hQ h' ⟨_,tp,st,sg,hl,k1,hen,k2,by rw [← hcls]; exact k3⟩ (((Heap.UpToSlots.of_keeps F.keep).trans (Heap.UpToSlots.of_keeps hkeeps)).trans k4)
theorem call_intro {fi : FI} {params : Arguments} {body : List Stmt} {P : PTS} {d : Nat} {args : List AV} {μ : List MO} {Q : AV → List MO → Prop} {X : Prop} (ok : fi.Ok) (Fn : FnAt g fi params body args.length) (hb : SVs g fi body P)
    (h : P d X (locs0 fi args) μ (fun _ μ' => Back μ Q (.pv .none) μ') (Back μ Q)) : CALL g (d + 1) fi.f args μ Q X := by
  intro A env outer base h₀ L m cs im fz s vs Qc Ec hD hf hk F D tk ha hQ hE
  obtain ⟨A₀,B⟩ := hD.B
  obtain ⟨oc,od,osl,dV,kV,doc,pm,an,ct,name,hat,hbind⟩ := Fn.at_
  have hlen := ARs.length ha
  refine callX_plain (cl := []) (binds := (fi.names.take args.length).zip vs) B F D.N hD.T.nolimit hD.fr hf hk ((hD.X.keeps F.keep) _ _ hat) rfl (codeRec_of (hD.X.keeps F.keep) Fn.code) (by have := hD.dep; show A.depth < 1000; omega)
    (BindsTo.of_eq (hbind vs hlen.symm)) (fun y hy => Fn.loc y.1 (List.of_mem_zip (a := y.1) (b := y.2) hy).1) (fun g₁ L' h₁ FG F' N' B' st lt => ?_) Fn.cell Fn.co Fn.gen ok.kind
  have hD' : Dyn g d (A.deeper (fi.env L')) (fi.env L') (env :: outer) base g₁ := by
    refine ⟨hD.hh,Around.frames_deeper hD.fr, ?_, ?_,⟨_,B'⟩,hD.X.keeps st,hD.T.keeps st,fun z => absurd (Option.some.inj z) Fn.nl, ?_,hD.XB,hD.TB⟩
    · have := hD.dep; show A.depth + 1 + _ < _; omega
    · have := hD.un; show A.units + 3 + _ < _; omega
    · obtain ⟨ws,hw,hi⟩ := hD.S
      exact ⟨ws,stays_list st hw,hi⟩
  have hLR : LR g im (caddr cs) fi.names (locs0 fi args) (fun y => ((fi.names.take args.length).zip vs).reverse.lookup y) := by
    intro i x av hn hl
    unfold locs0 at hl
    have hi : i < args.length := by
      apply Classical.byContradiction
      intro hc
      rw [List.getElem?_append_right (by simpa using hc)] at hl
      rw [List.getElem?_replicate] at hl
      split at hl <;> cases hl
    rw [List.getElem?_append_left (by simpa using hi),List.getElem?_map] at hl
    obtain ⟨y,hy,e⟩ := Option.map_eq_some_iff.mp hl
    cases e
    obtain ⟨v,hv,hr⟩ := ha.get hy
    have := lookup_zip (ks := fi.names.take args.length) (vs := vs) (x := x) (v := v) (i := i) (ok.nd.sublist (List.take_sublist _ _)) (by rw [List.getElem?_take_of_lt hi]; exact hn) hv [] (fun _ h => nomatch h)
    rw [List.append_nil] at this
    exact ⟨v,this,hr⟩
  have back : ∀ (v : Value) (b : AV) (μ' : List MO) (cs' : List Cell) (im' : Led0) (h' : Heap) (tk' : Nat) (m' : Str → Option Value),Fr g₁ L' h' m' → Led g g₁ L' h' μ' cs' im' fz → 0 < tk' → Sub im im' → Pre (caddr cs) (caddr cs') → AR g im' (caddr cs') b v → Back μ Q b μ' →
      LeaveK h₀ L m g₁ (RetTo Qc Ec) v { s with heap := h',toks := tk' } := fun v b μ' cs' im' h' tk' m' F2 D2 t2 sb pr hr hb' => by
    obtain ⟨n,b2,hn,hbb,hbm,hq⟩ := hb'.ex
    have D3 := D2.cut n hbm
    refine leaveK_ F2 D3.N fun F4 N4 => ?_
    have e : caddr (cs'.take n) = (caddr cs').take n := by unfold caddr; rw [List.map_take]
    refine hQ v b2 (μ'.take n) (cs'.take n) _ h' tk' F4 (D3.base N4) t2 (sb.trans fun _ h => List.mem_append_right _ h) ?_ ?_ hq
    · rw [e]; exact pr.cut (by unfold caddr; rw [List.length_map,← D.R.length]; exact hn)
    · rw [e]; exact frz_rel D2 hr hbb
  refine hb d X _ μ _ _ h _ (env :: outer) base g₁ L' _ cs im fz _ _ _ hD' F' hLR (D.base N') (Nat.lt_of_lt_of_le tk (Nat.le_add_right _ _))
    (fun loc' μ' cs' im' h' tk' m' F2 L2 D2 t2 sb pr q => back .none (.pv .none) μ' cs' im' h' tk' m' F2 D2 t2 sb pr rfl q)
    (fun v b μ' cs' im' h' tk' m' F2 D2 t2 sb pr hr q => back v b μ' cs' im' h' tk' m' F2 D2 t2 sb pr hr q) ⟨?_,fun _ => ?_⟩
  · intro e h' tk' im' hh m' sb F2 hs R x
    exact leave_onSN B' F2 R hs fun h'' R' _ U' => hE e h'' tk' im' g₁ m sb FG U' R' x
  · intro e h' tk' im' hh m' ob tp sb F2 N2 hnew hkeeps he hcls hd x
    exact leave_new316 B' F2 N2 hnew hkeeps he hcls hd (fun h'' R' U' => hE e h'' tk' im' g₁ m sb FG U' R' x) ok.kind
noncomputable def allP : List AV → List PV → Prop
  | [],ps => ps = []
  | .pv p :: r,ps => ∃ qs,ps = p :: qs ∧ allP r qs
  | _ :: _,_ => False
theorem pureARs {im : Led0} {η η' : List Addr} : ∀ {ps : List PV} {vs : List Value},ARs g im η (ps.map .pv) vs → ARs g im η' (ps.map .pv) vs
  | [],_,e => e
  | _ :: _,_,⟨v,r,e,h1,h2⟩ => ⟨v,r,e,h1,pureARs h2⟩
noncomputable def CALLP (g : GW) (d : Nat) (f : Addr) (args : List PV) (Q : PV → Prop) (X : Prop) : Prop := CALL g d f (args.map .pv) [] (fun b ν => ν = [] ∧ ∃ p,b = .pv p ∧ Q p) X
theorem CALLP.frame {d : Nat} {f : Addr} {args : List PV} {Q : PV → Prop} {X : Prop} (h : CALLP g d f args Q X) (μ : List MO) : CALL g d f (args.map .pv) μ (fun b ν => ν = μ ∧ ∃ p,b = .pv p ∧ Q p) X := by
  intro A env outer base h₀ L m cs im fz s vs Qc Ec hD hf hk F D tk ha hQ hE
  have D0 : Led g h₀ L s.heap [] [] im (cobjs cs ++ fz) := by
    refine ⟨fun x hx => D.N x ?_,by simp [cobjs_nil],fun p hp => (nomatch hp),fun p hp q hq => ?_,rfl⟩
    · rcases List.mem_append.mp hx with hx | hx
      · cases hx
      · rcases List.mem_append.mp hx with hx | hx
        · exact List.mem_append_right _ (List.mem_append_left _ hx)
        · rcases List.mem_append.mp hx with hx | hx
          · exact List.mem_append_left _ hx
          · exact List.mem_append_right _ (List.mem_append_right _ hx)
    · rcases List.mem_append.mp hq with hq | hq
      · exact fun e => D.dj q hq p (List.mem_append_left _ hp) e.symm
      · exact D.df p hp q hq
  refine h A env outer base h₀ L m [] im (cobjs cs ++ fz) s vs Qc Ec hD hf hk F D0 tk (pureARs ha) (fun v b μ' cs' im' h' tk' F' D' t' sb pr hr q => ?_) (fun e h' tk' im' hh m' sb F' U R x => hE e h' tk' (cobjs cs ++ im') hh m' (fun p hp => List.mem_append_right _ (sb p hp)) F' U ?_ x)
  · obtain ⟨rfl,p,rfl,hp⟩ := q
    have hcs : cs' = [] := D'.R
    subst hcs
    refine hQ v (.pv p) μ cs im' h' tk' F' ⟨fun x hx => D'.N x ?_,D.nd,fun p hp q hq => ?_,fun p hp q hq => ?_,D.R.mono sb Pre.refl⟩ t' sb Pre.refl hr ⟨rfl,p,rfl,hp⟩
    · rcases List.mem_append.mp hx with hx | hx
      · exact List.mem_append_right _ (List.mem_append_right _ (List.mem_append_left _ hx))
      · rcases List.mem_append.mp hx with hx | hx
        · exact List.mem_append_right _ (List.mem_append_left _ hx)
        · exact List.mem_append_right _ (List.mem_append_right _ (List.mem_append_right _ hx))
    · rcases List.mem_append.mp hq with hq | hq
      · exact fun e => D'.df q hq p (List.mem_append_left _ hp) e.symm
      · exact D.dj p hp q (List.mem_append_right _ hq)
    · exact D'.df p hp q (List.mem_append_right _ hq)
  · obtain ⟨B,a0,h1,hg,h2,h3⟩ := R
    refine ⟨B,a0,h1,hg,fun q hq => h2 q ?_,h3⟩
    rcases List.mem_append.mp hq with hq | hq
    · rcases List.mem_append.mp hq with hq | hq
      · exact List.mem_append_right _ (List.mem_append_left _ hq)
      · exact List.mem_append_left _ hq
    · exact List.mem_append_right _ (List.mem_append_right _ hq)
end
end Mine
end
section
namespace Mine
section
variable {g : GW}
theorem cobjs_one {cs : List Cell} {c : Cell} : cobjs (cs ++ [c]) = cobjs cs ++ c.objs := by rw [cobjs_append]; unfold cobjs; simp
theorem Led.fits {h₀ h : Heap} {L : Addr} {μ : List MO} {cs : List Cell} {im fz : Led0} (D : Led g h₀ L h μ cs im fz) {p : Addr × Obj} (hp : p ∈ cobjs cs ++ (im ++ fz)) : p.1 < h.objs.size := Heap.lt_size (D.N p hp).1
theorem Pre.one {cs : List Cell} {c : Cell} : Pre (caddr cs) (caddr (cs ++ [c])) := by rw [caddr_app]; exact Pre.app
theorem caddr_last {im : Led0} {η : List Addr} {μ : List MO} {cs : List Cell} {c : Cell} (R : MRs g im η μ cs) : (caddr (cs ++ [c]))[μ.length]? = some c.addr := by
  rw [caddr_app,R.length]
  unfold caddr
  rw [List.getElem?_append_right (by simp)]
  simp
theorem Led.newInst {h₀ h h' : Heap} {L : Addr} {μ : List MO} {cs : List Cell} {im fz : Led0} (D : Led g h₀ L h μ cs im fz) {x dx C : Addr} (N : News h₀ L h' ((x,instObj C dx) :: (dx,dictOf [] 0) :: (cobjs cs ++ (im ++ fz))))
    (l1 : ∀ p ∈ cobjs cs ++ (im ++ fz),p.1 < dx) (l2 : dx < x) : Led g h₀ L h' (μ ++ [.inst C []]) (cs ++ [.inst x C dx [] 0]) im fz := by
  refine D.cell (c := .inst x C dx [] 0) N ?_ (fun q hq p hp e => ?_) ⟨rfl,Nat.zero_le _,rfl⟩
  · show [x,dx].Nodup
    simp only [List.nodup_cons,List.mem_singleton,List.not_mem_nil,not_false_eq_true,List.nodup_nil,and_true]
    exact fun e => Nat.lt_irrefl _ (e ▸ l2)
  · have hp' := l1 p hp
    rcases List.mem_cons.mp hq with rfl | hq
    · rw [e] at hp'; exact Nat.lt_irrefl _ (Nat.lt_trans hp' l2)
    · rw [List.mem_singleton.mp hq] at e
      rw [e] at hp'; exact Nat.lt_irrefl _ hp'
structure MakeOk (g : GW) (C fI : Addr) : Prop where
  makes : makesIn g.K C = true
  init : findIn g.K (.ref C) "__init__" = some (some (.ref fI))
  fn : isFn g.K (.ref fI) = true
theorem Dyn.under {d : Nat} {A : Around} {env : Env} {outer : List Env} {base h₀ : Heap} (h : Dyn g (d + 1) A env outer base h₀) (C : Addr) (vs : List Value) : Dyn g d (A.under (.builtin "type.__call__" ⟨.ref C :: vs,[]⟩)) env outer base h₀ :=
  { hh := h.hh,fr := by show pushEnvs [] A.frames = _; rw [h.fr]; rfl,dep := by have := h.dep; rw [depth_under_make]; omega,un := by have := h.un; show A.units + 1 + _ < _; omega,B := h.B,X := h.X,T := h.T,O := h.O,S := h.S,XB := h.XB,TB := h.TB }
theorem call_make {d : Nat} {C fI : Addr} {args : List AV} {μ : List MO} {Q : AV → List MO → Prop} {X : Prop} (O : MakeOk g C fI)
    (h : CALL g d fI (.mut μ.length :: args) (μ ++ [.inst C []]) (fun b μ' => b = .pv .none ∧ Back μ Q (.mut μ.length) μ') X) : CALL g (d + 1) C args μ Q X := by
  intro A env outer base h₀ L m cs im fz s vs Qc Ec hD hf hk F D tk ha hQ hE
  refine make_K F D.N (hD.X.keeps F.keep) O.makes O.init (beq_iff_eq.mp O.fn) fun x dx h' F' N' l1 l2 => ?_
  have D' := D.newInst N' l1 l2
  have pr : Pre (caddr cs) (caddr (cs ++ [.inst x C dx [] 0])) := Pre.one
  refine codeAny_mono (h _ env outer base h₀ L m _ im fz { s with heap := h' } (.ref x :: vs) (fun v s' => v = .none ∧ Qc (.ref x) s') Ec (hD.under C vs) hf hk F' D' tk ⟨.ref x,vs,rfl,⟨x,caddr_last D.R,rfl⟩,ha.mono Sub.refl pr⟩ (fun v b μ' cs' im' h2 tk2 F2 D2 t2 sb pr2 hr q => ?_)
    (fun e h2 tk2 im' hh m' sb F2 U R x => hE e h2 tk2 im' hh m' sb F2 U R x)) fun r s' hr => ?_
  · obtain ⟨rfl,⟨n,b',hn,hb,hm,hq⟩⟩ := q
    cases hr
    refine ⟨rfl, ?_⟩
    have D3 := D2.cut n hm
    have e : caddr (cs'.take n) = (caddr cs').take n := by unfold caddr; rw [List.map_take]
    refine hQ (.ref x) b' (μ'.take n) (cs'.take n) _ h2 tk2 F2 D3 t2 (sb.trans fun _ h => List.mem_append_right _ h) ?_ ?_ hq
    · rw [e]; exact (pr.trans pr2).cut (by unfold caddr; rw [List.length_map,← D.R.length]; exact hn)
    · rw [e]; exact frz_rel D2 (show AR g im' (caddr cs') (.mut μ.length) (.ref x) from ⟨x,pr2 _ _ (caddr_last D.R),rfl⟩) hb
  · rcases r with e | (v | _ | _ | _)
    · exact hr
    all_goals exact hr
theorem call_make0 {d : Nat} {C : Addr} {μ : List MO} {Q : AV → List MO → Prop} {X : Prop} (hm : makesIn g.K C = true) (hi : findIn g.K (.ref C) "__init__" = some (some (.builtin "object.__init__")))
    (h : Q (.pv (.inst C [])) μ) : CALL g d C [] μ Q X := by
  intro A env outer base h₀ L m cs im fz s vs Qc Ec hD hf hk F D tk ha hQ hE
  cases ha
  refine make_K0 F D.N (hD.X.keeps F.keep) hm hi fun x dx h' F' N' l1 l2 => ?_
  have hx : ∀ p ∈ cobjs cs ++ (im ++ fz),p.1 < x := fun p hp => Nat.lt_trans (l1 p hp) l2
  have D1 : Led g h₀ L h' μ cs ((dx,dictOf [] 0) :: im) fz := D.more (fun p hp => N' p (.tail _ hp)) fun p hp e => Nat.lt_irrefl _ (e ▸ l1 p hp)
  have D2 : Led g h₀ L h' μ cs ((x,instObj C dx) :: (dx,dictOf [] 0) :: im) fz := D1.more (fun p hp => by
      rcases List.mem_cons.mp hp with rfl | hp
      · exact N' _ (.head _)
      · rcases List.mem_append.mp hp with hp | hp
        · exact N' _ (.tail _ (.tail _ (List.mem_append_left _ hp)))
        · rcases List.mem_append.mp hp with hp | hp
          · rcases List.mem_cons.mp hp with rfl | hp
            · exact N' _ (.tail _ (.head _))
            · exact N' _ (.tail _ (.tail _ (List.mem_append_right _ (List.mem_append_left _ hp))))
          · exact N' _ (.tail _ (.tail _ (List.mem_append_right _ (List.mem_append_right _ hp))))) (fun p hp e => by
      rcases List.mem_append.mp hp with hp | hp
      · exact Nat.lt_irrefl _ (e ▸ hx p (List.mem_append_left _ hp))
      · rcases List.mem_append.mp hp with hp | hp
        · rcases List.mem_cons.mp hp with rfl | hp
          · exact Nat.lt_irrefl _ (e ▸ l2)
          · exact Nat.lt_irrefl _ (e ▸ hx p (List.mem_append_right _ (List.mem_append_left _ hp)))
        · exact Nat.lt_irrefl _ (e ▸ hx p (List.mem_append_right _ (List.mem_append_right _ hp))))
  exact hQ (.ref x) (.pv (.inst C [])) μ cs _ h' s.toks F' D2 tk (fun p hp => .tail _ (.tail _ hp)) Pre.refl ⟨x,dx,[],0,rfl,.head _,.tail _ (.head _),rfl⟩ h
end
end Mine
end
section
namespace Mine
open PySem PySem.W PySem.W.KIN PySem.Calls PySem.NumText PyProof.Rows
set_option maxHeartbeats 4000000 in
theorem gives_text2 {x : PySem.Str} {u v : Tok} {n : Int} (hl : x.length ≤ 640) (hn : PySem.intText? x = some n) : Gives (Builtin.«int.__new__» ⟨[.type "int",.str x u,.int 10 v],[]⟩) (.int n) :=
  .of_wp fun M A E s Q h => by
    obtain ⟨hp,g,d,tk,os⟩ := s
    have f1 := F.conv_sub_int
    have f2 := F.madeHere_int
    have f6 : typeOf (.str x u) = pure (.type "str") := rfl
    have hs : (numSeenOf x).length ≤ 640 := Nat.le_trans (seen_length x) hl
    have hr : (int_private% "readNumeral") 0 10 (numSeenOf x) = (int_private% "Numeral.value") n ∧ ((numSeenOf x).length == (numTextOf x).length) = true := by
      rcases read0 x hs with ⟨m,h1,h2,h3⟩ | ⟨h1,_⟩
      · rw [hn] at h1
        injection h1 with h1
        subst h1
        exact ⟨h3,h2⟩
      · rw [hn] at h1
        cases h1
    have hk := Hid.mk (And.intro hs hr)
    clear hs hr hl hn
    repeat (any_goals (first
      | assumption
      | ((with_reducible show wpAny _ _ ((int_private% "intFromText") _ _ _) _ _ _); refine wp_text hk.out.1 hk.out.2.1 hk.out.2.2 ?_)
      | wp_step))
    all_goals first | exact ⟨_,rfl,h⟩ | skip
end Mine
end
section
namespace Mine
theorem tc2 (a b : Value) : checkTypeCall "int" ⟨[a,b],[]⟩ = pure () := by kernel_rfl
theorem nc2 (a b : Value) : checkBuiltinCall "int.__new__" ⟨[.type "int",a,b],[]⟩ = pure () := by kernel_rfl
theorem oi3 (o a b : Value) : argsOk "object.__init__" ⟨[o,a,b],[]⟩ := by unfold argsOk; kernel_rfl
theorem call_text2 {prog : Program} {w : World} {A : Around} {E : Value → Shared → Prop} {s : Shared} {Q : Value → Shared → Prop} {x : PySem.Str} {t u : Tok} {n : Int} (hn : PySem.intText? x = some n) (hl : x.length ≤ 640) (h : Q (.int n s.toks) { s with toks := s.toks + 1 }) :
    wpAny (model prog w) A (call (.type "int") [.str x t,.int 10 u]) Q E s :=
  callType_new F.called_int F.newNe_int (tc2 _ _) (nc2 _ _) (fun obj => oi3 obj _ _) F.entry_int_new (gives_text2 hl hn).meets (show (Made.int n).post _ s from ⟨rfl,h⟩)
noncomputable def nodeCls : List Addr := [66,85,111,137,163,189,208]
noncomputable def isClassNode (C : Addr) : Bool := nodeCls.contains C
inductive BltIs (ns : List Int) (μ : List MO) : BI → List AV → PV → Prop where
  | len_s (x : Str) (h : x.length ≤ textLine) : BltIs ns μ .len [.pv (.str x)] (.int x.length)
  | len_l (ps : List PV) (h : ps.length ≤ textLine) : BltIs ns μ .len [.pv (.lst ps)] (.int ps.length)
  | len_m (i : Nat) (ps : List PV) (hi : μ[i]? = some (.lst ps)) (h : ps.length ≤ textLine) : BltIs ns μ .len [.mut i] (.int ps.length)
  | len_c (h : ns.length ≤ textLine) : BltIs ns μ .len [.pv .scr] (.int ns.length)
  | ord_s (x : Str) (h : x.length = 1) : BltIs ns μ .ord [.pv (.str x)] (.int (x.cps.getD 0 0 : Nat))
  | max_i (a b : Int) : BltIs ns μ .max [.pv (.int a),.pv (.int b)] (.int (if b > a then b else a))
  | min_i (a b : Int) : BltIs ns μ .min [.pv (.int a),.pv (.int b)] (.int (if b < a then b else a))
  | str_i (a : Int) (h : a.natAbs.log2 < 1920) : BltIs ns μ .str [.pv (.int a)] (.str (Str.ofString (toString a)))
  | int_s (x : Str) (p : PV) (h : x.length ≤ 640) (hp : (PySem.intText? x).map .int = some p) : BltIs ns μ .int [.pv (.str x),.pv (.int 10)] p
  | isi_ii (a : Int) : BltIs ns μ .isinstance [.pv (.int a),.pv (.blt .int)] (.bool true)
  | isi_si (x : Str) : BltIs ns μ .isinstance [.pv (.str x),.pv (.blt .int)] (.bool false)
  | isi_ss (x : Str) : BltIs ns μ .isinstance [.pv (.str x),.pv (.blt .str)] (.bool true)
  | isi_c (C : Addr) (fs : List (Nat × PV)) (D : Addr) (h : (nodeCls.contains C && nodeCls.contains D) = true) : BltIs ns μ .isinstance [.pv (.inst C fs),.pv (.top D)] (.bool (C == D))
noncomputable def lenM (ns : List Int) (μ : List MO) (i : Nat) : (o : Option MO) → μ[i]? = o → ResC (BltIs ns μ .len [.mut i])
  | some (.lst ps),hi => .when (ps.length ≤ textLine) (.int ps.length) (.len_m i ps hi)
  | _,_ => .no
noncomputable def bltR (ns : List Int) (μ : List MO) : (b : BI) → (args : List AV) → ResC (BltIs ns μ b args)
  | .len,[.pv (.str x)] => .when (x.length ≤ textLine) (.int x.length) (.len_s x)
  | .len,[.pv (.lst ps)] => .when (ps.length ≤ textLine) (.int ps.length) (.len_l ps)
  | .len,[.mut i] => lenM ns μ i μ[i]? rfl
  | .len,[.pv .scr] => .when (ns.length ≤ textLine) (.int ns.length) .len_c
  | .ord,[.pv (.str x)] => .when (x.length = 1) (.int (x.cps.getD 0 0 : Nat)) (.ord_s x)
  | .max,[.pv (.int a),.pv (.int b)] => .ok (.int (if b > a then b else a)) (.max_i a b)
  | .min,[.pv (.int a),.pv (.int b)] => .ok (.int (if b < a then b else a)) (.min_i a b)
  | .str,[.pv (.int a)] => .when (a.natAbs.log2 < 1920) (.str (Str.ofString (toString a))) (.str_i a)
  | .int,[.pv (.str x),.pv (.int 10)] => .opt (x.length ≤ 640) ((PySem.intText? x).map .int) fun h p e => .int_s x p h e
  | .isinstance,[.pv (.int a),.pv (.blt .int)] => .ok (.bool true) (.isi_ii a)
  | .isinstance,[.pv (.str x),.pv (.blt .int)] => .ok (.bool false) (.isi_si x)
  | .isinstance,[.pv (.str x),.pv (.blt .str)] => .ok (.bool true) (.isi_ss x)
  | .isinstance,[.pv (.inst C fs),.pv (.top D)] => .when ((nodeCls.contains C && nodeCls.contains D) = true) (.bool (C == D)) (.isi_c C fs D)
  | _,_ => .no
structure IsiOk (g : GW) (C D : Addr) : Prop where
  yes : C = D → isIn g.K (.ref C) D = true
  no : C ≠ D → kin_not g.K C D = true
  gc : plainGet g.K C "__class__" = true
  di : hasDictIn g.K C = true
  fi : findIn g.K (.ref C) "__class__" = some (some (.builtin "object.__class__"))
  sp : specialIn g.K (.builtin "object.__class__") "__get__" = some (some (.builtin "getset_descriptor.__get__"))
  tk : takesIn g.K (.builtin "object.__class__") = some true
  mo : mroIn g.K C (.type "object") = some true
structure IOk (g : GW) : Prop where
  isi : ∀ C ∈ nodeCls,∀ D ∈ nodeCls,IsiOk g C D
section
variable {g : GW} {fi : FI}
theorem blt_ok {A : Around} {Ec : Value → Shared → Prop} {s : Shared} {h₀ : Heap} {L : Addr} {m : Str → Option Value} {μ : List MO} {cs : List Cell} {im fz : Led0} {b : BI} {args : List AV} {p : PV} {vs : List Value} {Q : Value → Shared → Prop} (IO : IOk g)
    (h : BltIs g.ns μ b args p) (ra : ARs g im (caddr cs) args vs) (hh : A.handled = none) (X : g.K.In h₀) (S : ∃ ws,h₀.IsList g.sa ws.toArray ∧ IntsAre ws g.ns) (F : Fr h₀ L s.heap m) (D : Led g h₀ L s.heap μ cs im fz) (tk : 0 < s.toks)
    (q : ∀ v h' tk',Fr h₀ L h' m → Led g h₀ L h' μ cs im fz → 0 < tk' → PR g im p v → Q v { s with heap := h',toks := tk' }) : wpAny (model g.prog g.w) A (call b.val vs) Q Ec s := by
  have q0 : ∀ v tk',s.toks ≤ tk' → PR g im p v → Q v { s with toks := tk' } := fun v tk' ht r => q v s.heap tk' F D (Nat.lt_of_lt_of_le tk ht) r
  have line : ∀ n : Nat,n ≤ textLine → (n : Int) < 2 ^ 63 := fun n hn => by unfold textLine at hn; omega
  cases h with
  | len_s x hb =>
    obtain ⟨_,_,rfl,⟨t,rfl⟩,rfl⟩ := ra
    exact len_str (by have := line _ hb; omega) (q0 _ _ (Nat.le_succ_of_le (Nat.le_succ _)) ⟨_,rfl⟩)
  | len_l ps hb =>
    obtain ⟨_,_,rfl,⟨a,ws,n,rfl,hm,hr⟩,rfl⟩ := ra
    rw [hr.length] at hb
    exact len_list (News.isList D.N (D.im_in hm)) (by rw [List.size_toArray]; exact line _ hb) (q0 _ _ (Nat.le_succ_of_le (Nat.le_succ _)) ⟨_,by rw [List.size_toArray,hr.length]⟩)
  | len_m i ps hi hb =>
    obtain ⟨_,_,rfl,⟨a,ha,rfl⟩,rfl⟩ := ra
    obtain ⟨a',ws,n,_,ha',hm,hr⟩ := D.lst hi
    cases ha.symm.trans ha'
    rw [hr.length] at hb
    exact len_list (News.isList D.N hm) (by rw [List.size_toArray]; exact line _ hb) (q0 _ _ (Nat.le_succ_of_le (Nat.le_succ _)) ⟨_,by rw [List.size_toArray,hr.length]⟩)
  | len_c hb =>
    obtain ⟨_,_,rfl,hv,rfl⟩ := ra
    cases (show _ = Value.ref g.sa from hv)
    obtain ⟨ws,hl,hi⟩ := S
    have e := hi.length
    exact len_list (stays_list F.keep hl) (by rw [List.size_toArray]; exact line _ (by omega)) (q0 _ _ (Nat.le_succ_of_le (Nat.le_succ _)) ⟨_,by rw [List.size_toArray,e]⟩)
  | ord_s x hb =>
    obtain ⟨_,_,rfl,⟨t,rfl⟩,rfl⟩ := ra
    exact ord_of_one hb (q0 _ _ (Nat.le_succ _) ⟨_,rfl⟩)
  | max_i a b =>
    obtain ⟨_,_,rfl,⟨t,rfl⟩,_,_,rfl,⟨u,rfl⟩,rfl⟩ := ra
    refine wpAny_with_toks (Nat.le_refl _) (wpAny_mono (max_two_N (Q := fun v s' => ∃ h' k,Fr h₀ L h' m ∧ News h₀ L h' (cobjs cs ++ (im ++ fz)) ∧ (∃ t',v = .int _ t') ∧ s' = { s with heap := h',toks := k }) hh F D.N (fun h' k F' N' => ⟨h',k,F',N',⟨_,rfl⟩,rfl⟩)) (fun v s' hv ht => ?_) fun _ _ e _ => e)
    obtain ⟨h',k,F',N',⟨t',rfl⟩,rfl⟩ := hv
    exact q _ h' k F' (D.of_news N') (Nat.lt_of_lt_of_le tk ht) ⟨_,rfl⟩
  | min_i a b =>
    obtain ⟨_,_,rfl,⟨t,rfl⟩,_,_,rfl,⟨u,rfl⟩,rfl⟩ := ra
    refine wpAny_with_toks (Nat.le_refl _) (wpAny_mono (min_two_N (Q := fun v s' => ∃ h' k,Fr h₀ L h' m ∧ News h₀ L h' (cobjs cs ++ (im ++ fz)) ∧ (∃ t',v = .int _ t') ∧ s' = { s with heap := h',toks := k }) hh F D.N (fun h' k F' N' => ⟨h',k,F',N',⟨_,rfl⟩,rfl⟩)) (fun v s' hv ht => ?_) fun _ _ e _ => e)
    obtain ⟨h',k,F',N',⟨t',rfl⟩,rfl⟩ := hv
    exact q _ h' k F' (D.of_news N') (Nat.lt_of_lt_of_le tk ht) ⟨_,rfl⟩
  | str_i a hb =>
    obtain ⟨_,_,rfl,⟨t,rfl⟩,rfl⟩ := ra
    exact P.str_of_int hb (q0 _ _ (Nat.le_succ _) ⟨_,rfl⟩)
  | int_s x p hb hp =>
    obtain ⟨_,_,rfl,⟨t,rfl⟩,_,_,rfl,⟨u,rfl⟩,rfl⟩ := ra
    obtain ⟨n,hn,rfl⟩ := Option.map_eq_some_iff.mp hp
    exact call_text2 hn hb (q0 _ _ (Nat.le_succ _) ⟨_,rfl⟩)
  | isi_ii a =>
    obtain ⟨_,_,rfl,⟨t,rfl⟩,_,_,rfl,hb,rfl⟩ := ra
    cases (show _ = Value.type "int" from hb)
    exact IsiPair.int_int (q0 _ _ (Nat.le_refl _) rfl)
  | isi_si x =>
    obtain ⟨_,_,rfl,⟨t,rfl⟩,_,_,rfl,hb,rfl⟩ := ra
    cases (show _ = Value.type "int" from hb)
    exact IsiPair.str_int (q0 _ _ (Nat.le_succ _) rfl)
  | isi_ss x =>
    obtain ⟨_,_,rfl,⟨t,rfl⟩,_,_,rfl,hb,rfl⟩ := ra
    cases (show _ = Value.type "str" from hb)
    exact IsiPair.str_str (q0 _ _ (Nat.le_refl _) rfl)
  | isi_c C fs D' hcd =>
    obtain ⟨_,_,rfl,⟨x,dx,es,n,rfl,h1,h2,_⟩,_,_,rfl,hb,rfl⟩ := ra
    cases (show _ = Value.ref D' from hb)
    rw [Bool.and_eq_true] at hcd
    have I := IO.isi C (List.contains_iff_mem.mp hcd.1) D' (List.contains_iff_mem.mp hcd.2)
    by_cases e : C = D'
    · refine isi_call (t := .ref C) (X.keeps F.keep) (fun M => ?_) (I.yes e) (by intro q; cases q) (q0 _ _ (Nat.le_refl _) (by show Value.bool true = Value.bool (C == D'); rw [beq_iff_eq.mpr e]))
      exact (Looks.ld (D.N _ (D.im_in h1)).1).andThen .now
    · refine kin_callC (X.keeps F.keep) (InstAt.of_news D.N (D.im_in h1) (D.im_in h2)) (I.no e) I.gc I.di I.fi I.sp I.tk I.mo (q0 _ _ (Nat.le_succ _) (by show Value.bool false = Value.bool (C == D'); rw [beq_eq_false_iff_ne.mpr e]))
end
end Mine
end
section
namespace Mine
section
variable {g : GW} {fi : FI}
noncomputable def pCallB (ns : List Int) (b : BI) (R : PTL) : PT := fun d X loc μ Q => R d X loc μ fun vs μ1 => (bltR ns μ1 b vs).go fun p => Q (.pv p) μ1
theorem ev_callB {x : Str} {np pos : Pos} {e : Expr} {r : List Expr} {b : BI} {R : PTL} (IO : IOk g) (ok : fi.Ok) (hk : fi.scope.names.lookup x = some .globalImplicit) (hd : (x == ("__debug__" : Str)) = false) (hv : nsIn g.K mainGlobals x = some none) (hb : bootBuiltins x = some b.val) (hn : x ≠ "__name__")
    (has : LV g fi pos (e :: r) R) (hpl : ∀ env,(backTo pos (starEach r env)).any (·.1) = false) (hcons : ∀ env,starEach (e :: r) env = (false,eval e env) :: starEach r env) :
    EV g fi (.Call (.Name x np) (e :: r) [] pos) (pCallB g.ns b R) := by
  intro d X loc μ Q h A outer base h₀ L m cs im fz s Qc Ec hD F LRR D tk hQ hE
  refine Call_ (name_B F hD.X (topRead_of hD.T) hv hb hn ?_ ok.kind hk hd) rfl
  have body : wpAny (model g.prog g.w) A (spliced (backTo pos (starEach (e :: r) (fi.env L)))) (fun vs s₁ => wpAny (model g.prog g.w) A (call b.val vs) Qc Ec s₁) Ec s :=
    has d X loc μ _ h A outer base h₀ L m cs im fz s _ Ec hD F LRR D tk (fun r1 b1 μ1 cs1 im1 h1 tk1 F1 L1 D1 t1 sb1 pr1 hr1 hq1 => by
      obtain ⟨p,hp,hq1⟩ := ResC.sound hq1
      exact blt_ok IO hp hr1 hD.hh hD.X hD.S F1 D1 t1 fun v h2 tk2 F2 D2 t2 hr2 => hQ v (.pv p) μ1 cs1 im1 h2 tk2 F2 L1 D2 t2 sb1 pr1 hr2 hq1) hE
  cases b <;> first | exact PyProof.Rows.callWith_method1 body (hcons _) (hpl _) | exact PyProof.Rows.callWith_type1 body (hcons _) (hpl _)
inductive SM where
  | isascii | upper | lower | lstrip | find | join
noncomputable def SM.nm : SM → Str
  | .isascii => "isascii" | .upper => "upper" | .lower => "lower" | .lstrip => "lstrip" | .find => "find" | .join => "join"
noncomputable def SM.id : SM → String
  | .isascii => "str.isascii" | .upper => "str.upper" | .lower => "str.lower" | .lstrip => "str.lstrip" | .find => "str.find" | .join => "str.join"
inductive SmIs (μ : List MO) : SM → AV → List AV → PV → Prop where
  | isascii (x : Str) : SmIs μ .isascii (.pv (.str x)) [] (.bool (Txt.isascii x))
  | upper (x : Str) (h : Builtin.Str.tooLong (Txt.upper x).length = false) : SmIs μ .upper (.pv (.str x)) [] (.str (Txt.upper x))
  | lower (x : Str) (h : Builtin.Str.tooLong (Txt.lower x).length = false) : SmIs μ .lower (.pv (.str x)) [] (.str (Txt.lower x))
  | lstrip (x y : Str) (h : x.length ≤ textLine) : SmIs μ .lstrip (.pv (.str x)) [.pv (.str y)] (.str (Txt.lstripChars x y))
  | find (x y : Str) (i : Int) : SmIs μ .find (.pv (.str x)) [.pv (.str y),.pv (.int i)] (.int (Txt.find3 x y i))
  | join (x : Str) (k : Nat) (ps : List PV) (ys : List Str) (hk : μ[k]? = some (.lst ps)) (hy : strsOf ps = some ys) (hb : JoinOk x ys = true) : SmIs μ .join (.pv (.str x)) [.mut k] (.str (Txt.join x ys))
theorem join_is {μ : List MO} {x : Str} {k : Nat} {ps : List PV} {p : PV} (hk : μ[k]? = some (.lst ps)) (e : ((strsOf ps).bind fun ys => if JoinOk x ys = true then some (.str (Txt.join x ys)) else none) = some p) : SmIs μ .join (.pv (.str x)) [.mut k] p := by
  obtain ⟨ys,hy,hp⟩ := Option.bind_eq_some_iff.mp e
  by_cases hb : JoinOk x ys = true
  · rw [if_pos hb] at hp
    cases hp
    exact .join x k ps ys hk hy hb
  · rw [if_neg hb] at hp
    cases hp
noncomputable def joinM (μ : List MO) (x : Str) (k : Nat) : (o : Option MO) → μ[k]? = o → ResC (SmIs μ .join (.pv (.str x)) [.mut k])
  | some (.lst ps),hk => .opt True ((strsOf ps).bind fun ys => if JoinOk x ys = true then some (.str (Txt.join x ys)) else none) fun _ p e => join_is hk e
  | _,_ => .no
noncomputable def smR (μ : List MO) : (k : SM) → (a : AV) → (args : List AV) → ResC (SmIs μ k a args)
  | .isascii,.pv (.str x),[] => .ok (.bool (Txt.isascii x)) (.isascii x)
  | .upper,.pv (.str x),[] => .when (Builtin.Str.tooLong (Txt.upper x).length = false) (.str (Txt.upper x)) (.upper x)
  | .lower,.pv (.str x),[] => .when (Builtin.Str.tooLong (Txt.lower x).length = false) (.str (Txt.lower x)) (.lower x)
  | .lstrip,.pv (.str x),[.pv (.str y)] => .when (x.length ≤ textLine) (.str (Txt.lstripChars x y)) (.lstrip x y)
  | .find,.pv (.str x),[.pv (.str y),.pv (.int i)] => .ok (.int (Txt.find3 x y i)) (.find x y i)
  | .join,.pv (.str x),[.mut k] => joinM μ x k μ[k]? rfl
  | _,_,_ => .no
theorem strVals {vs : List Value} {ys : List Str} (h : StrsAre vs ys) : ∃ l,vs = strValues l ∧ l.map (·.1) = ys := by
  induction h with
  | nil => exact ⟨[],rfl,rfl⟩
  | cons x t _ ih =>
    obtain ⟨l,e1,e2⟩ := ih
    exact ⟨(_,_) :: l,by rw [e1]; rfl,by rw [List.map_cons,e2]⟩
theorem sm_ok {A : Around} {Ec : Value → Shared → Prop} {s : Shared} {h₀ : Heap} {L : Addr} {μ : List MO} {cs : List Cell} {im fz : Led0} {k : SM} {o : AV} {ov : Value} {args : List AV} {p : PV} {vs : List Value} {Q : Value → Shared → Prop}
    (h : SmIs μ k o args p) (ro : AR g im (caddr cs) o ov) (ra : ARs g im (caddr cs) args vs) (D : Led g h₀ L s.heap μ cs im fz)
    (q : ∀ v tk',s.toks ≤ tk' → PR g im p v → Q v { s with toks := tk' }) : wpAny (model g.prog g.w) A (call (.builtin k.id) (ov :: vs)) Q Ec s := by
  have line : ∀ n : Nat,n ≤ textLine → n ≤ sizeLine := fun n hn => by rw [sizeLine_nat]; unfold textLine at hn; omega
  cases h with
  | isascii x =>
    obtain ⟨t,rfl⟩ := ro; cases ra
    exact SC.isascii (q _ _ (Nat.le_refl _) rfl)
  | upper x hb =>
    obtain ⟨t,rfl⟩ := ro; cases ra
    exact SC.upper hb (q _ _ (Nat.le_succ _) ⟨_,rfl⟩)
  | lower x hb =>
    obtain ⟨t,rfl⟩ := ro; cases ra
    exact SC.lower hb (q _ _ (Nat.le_succ _) ⟨_,rfl⟩)
  | lstrip x y hb =>
    obtain ⟨t,rfl⟩ := ro; obtain ⟨_,_,rfl,⟨u,rfl⟩,rfl⟩ := ra
    refine wpAny_with_toks (Nat.le_refl _) (wpAny_mono (SC.lstripChars (Q := fun v s' => ∃ t' k,v = .str _ t' ∧ s' = { s with toks := k }) (fun t' k => ⟨t',k,rfl,rfl⟩) (line _ hb)) (fun v s' hv ht => ?_) fun _ _ e _ => e)
    obtain ⟨t',k,rfl,rfl⟩ := hv
    exact q _ _ ht ⟨_,rfl⟩
  | find x y i =>
    obtain ⟨t,rfl⟩ := ro; obtain ⟨_,_,rfl,⟨u,rfl⟩,_,_,rfl,⟨v,rfl⟩,rfl⟩ := ra
    exact SC.find3 (q _ _ (Nat.le_succ _) ⟨_,rfl⟩)
  | join x k ps ys hk hy hb =>
    obtain ⟨t,rfl⟩ := ro; obtain ⟨_,_,rfl,⟨a,ha,rfl⟩,rfl⟩ := ra
    obtain ⟨a',ws,n,_,ha',hm,hr⟩ := D.lst hk
    cases ha.symm.trans ha'
    obtain ⟨l,e1,e2⟩ := strVals (strsOf_rel hy hr)
    subst e1
    refine wpAny_with_toks (Nat.le_refl _) (wpAny_mono (SC.join (Q := fun v s' => ∃ t' k,v = .str _ t' ∧ s' = { s with toks := k }) (News.isList D.N hm) e2 hb fun t' k => ⟨t',k,rfl,rfl⟩) (fun v s' hv ht => ?_) fun _ _ e _ => e)
    obtain ⟨t',k,rfl,rfl⟩ := hv
    exact q _ _ ht ⟨_,rfl⟩
theorem gm_ok {M : Model} {A : Around} {Ec : Value → Shared → Prop} {s : Shared} {x : Str} {t : Tok} {pl : Sem Bool} {Q : Value × List Value → Shared → Prop} (k : SM) (q : Q (.builtin k.id,[.str x t]) s) : wpAny M A (getMethod (.str x t) k.nm pl) Q Ec s := by
  cases k
  · exact GM.isascii q
  · exact GM.upper q
  · exact GM.lower q
  · exact GM.lstrip q
  · exact GM.find q
  · exact GM.join q
noncomputable def isStrA : AV → Bool
  | .pv (.str _) => true
  | _ => false
noncomputable def pStrM (k : SM) (P : PT) (R : PTL) : PT := fun d X loc μ Q => P d X loc μ fun a μ1 => isStrA a = true ∧ R d X loc μ1 fun vs μ2 => (smR μ2 k a vs).go fun p => Q (.pv p) μ2
theorem ev_strM {o : Expr} {name : Str} {apos pos : Pos} {args : List Expr} {P : PT} {R : PTL} (k : SM) (hn : name = k.nm) (ho : EV g fi o P) (has : LV g fi pos args R) (pl : Env → Sem Bool)
    (hs : ∀ env,eval (.Call (.Attribute o name apos) args [] pos) env = (do let ov ← eval o env; standAt apos.atName; let (f,first) ← holding [ov] (getMethod ov name (pl env)); callWith pos f first (backTo pos (starEach args env)) []))
    (hpl : ∀ env,(backTo pos (starEach args env)).any (·.1) = false) (hcons : ∀ env e r,args = e :: r → starEach (e :: r) env = (false,eval e env) :: starEach r env) :
    EV g fi (.Call (.Attribute o name apos) args [] pos) (pStrM k P R) := by
  intro d X loc μ Q h A outer base h₀ L m cs im fz s Qc Ec hD F LRR D tk hQ hE
  refine MethodCall_ (pl := pl (fi.env L)) (ho d X loc μ _ h A outer base h₀ L m cs im fz s _ Ec hD F LRR D tk (fun r1 b1 μ1 cs1 im1 h1 tk1 F1 L1 D1 t1 sb1 pr1 hr1 hq1 => ?_) hE) (hs _)
  obtain ⟨hstr,hq1⟩ := hq1
  have hx : ∃ x t,r1 = .str x t := by
    unfold isStrA at hstr
    split at hstr
    · obtain ⟨t,rfl⟩ := hr1; exact ⟨_,_,rfl⟩
    · cases hstr
  obtain ⟨x,t,rfl⟩ := hx
  rw [hn]
  refine gm_ok k ?_
  have go := has d X loc μ1 _ hq1 A outer base h₀ L m cs1 im1 fz { s with heap := h1,toks := tk1 } (fun vs s₁ => wpAny (model g.prog g.w) A (call (.builtin k.id) ([.str x t] ++ vs)) Qc Ec s₁) Ec hD F1 L1 D1 t1 (fun r2 b2 μ2 cs2 im2 h2 tk2 F2 L2 D2 t2 sb2 pr2 hr2 hq2 => by
    obtain ⟨p,hp,hq2⟩ := ResC.sound hq2
    exact sm_ok hp (AR.mono sb2 pr2 hr1) hr2 D2 fun v tk' ht hr => hQ v (.pv p) μ2 cs2 im2 h2 tk' F2 L2 D2 (Nat.lt_of_lt_of_le t2 ht) (sb1.trans sb2) (pr1.trans pr2) hr hq2) (hE.mono sb1)
  cases args with
  | nil =>
    have : wpAny (model g.prog g.w) A (pure ([] : List Value)) (fun vs s₁ => wpAny (model g.prog g.w) A (call (.builtin k.id) ([.str x t] ++ vs)) Qc Ec s₁) Ec { s with heap := h1,toks := tk1 } := go
    exact PyProof.Rows.callWith_method0 (fun Γ p hΓ => (this Γ p hΓ) Γ p hΓ)
  | cons e r =>
    have hc := hcons (fi.env L) e r rfl
    refine PyProof.Rows.callWith_method1 go hc ?_
    have := hpl (fi.env L)
    rw [hc] at this
    simpa [backTo] using this
noncomputable def pReplace (y z : Str) (P : PT) : PT := fun d X loc μ Q => P d X loc μ fun a μ1 => match a with
  | .pv (.str x) => x.length + (x.length + 1) * z.length ≤ 16777216 ∧ Q (.pv (.str (Txt.replace x y z))) μ1
  | _ => False
theorem ev_replace {o : Expr} {name : Str} {apos pos p1 p2 : Pos} {y z : Str} {k1 k2 : Nat} {P : PT} (hn : name = "replace") (hyz : (y == z) = false) (ho : EV g fi o P) (pl : Env → Sem Bool)
    (hs : ∀ env,eval (.Call (.Attribute o name apos) [.Constant (.str y) k1 p1,.Constant (.str z) k2 p2] [] pos) env = (do let ov ← eval o env; standAt apos.atName; let (f,first) ← holding [ov] (getMethod ov name (pl env)); callWith pos f first (backTo pos (starEach [.Constant (.str y) k1 p1,.Constant (.str z) k2 p2] env)) [])) :
    EV g fi (.Call (.Attribute o name apos) [.Constant (.str y) k1 p1,.Constant (.str z) k2 p2] [] pos) (pReplace y z P) := by
  intro d X loc μ Q h A outer base h₀ L m cs im fz s Qc Ec hD F LRR D tk hQ hE
  refine MethodCall_ (pl := pl (fi.env L)) (ho d X loc μ _ h A outer base h₀ L m cs im fz s _ Ec hD F LRR D tk (fun r1 b1 μ1 cs1 im1 h1 tk1 F1 L1 D1 t1 sb1 pr1 hr1 hq1 => ?_) hE) (hs _)
  split at hq1
  · rename_i x
    obtain ⟨t,rfl⟩ := hr1
    rw [hn]
    refine GM.replace ?_
    refine PyProof.Rows.callWith_method1 ?_
    refine args_cons (Calls.Constant_str (args_cons (Calls.Constant_str (args_nil ?_)) rfl)) rfl
    refine wpAny_with_toks (Nat.le_refl _) (wpAny_mono (SC.replace (Q := fun v s' => ∃ t' k,v = .str _ t' ∧ s' = { s with heap := h1,toks := k }) (by show ¬ tk1 = 0; omega) (by show ¬ tk1 + 1 = 0; omega) (by show ¬ tk1 = tk1 + 1; omega) hyz hq1.1 fun t' k => ⟨t',k,rfl,rfl⟩) (fun v s' hv ht => ?_) fun _ _ e _ => e)
    obtain ⟨t',k,rfl,rfl⟩ := hv
    exact hQ _ (.pv (.str _)) μ1 cs1 im1 h1 k F1 L1 D1 (by have : tk1 + 1 + 1 ≤ k := ht; omega) sb1 pr1 ⟨_,rfl⟩ hq1.2
  · exact hq1.elim
noncomputable def pAppend (P R : PT) : PT := fun d X loc μ Q => P d X loc μ fun a μ1 => (∃ k ps,a = .mut k ∧ μ1[k]? = some (.lst ps)) ∧ R d X loc μ1 fun b μ2 => match a,b with
  | .mut k,.pv p => match μ1[k]?,μ2[k]? with
    | some (.lst _),some (.lst ps) => ps.length ≤ textLine ∧ Q (.pv .none) (μ2.set k (.lst (ps ++ [p])))
    | _,_ => False
  | _,_ => False
theorem ev_append {o e : Expr} {name : Str} {apos pos : Pos} {P R : PT} (hn : name = "append") (ho : EV g fi o P) (he : EV g fi e R) (pl : Env → Sem Bool)
    (hs : ∀ env,eval (.Call (.Attribute o name apos) [e] [] pos) env = (do let ov ← eval o env; standAt apos.atName; let (f,first) ← holding [ov] (getMethod ov name (pl env)); callWith pos f first (backTo pos (starEach [e] env)) []))
    (hcons : ∀ env,starEach [e] env = [(false,eval e env)]) :
    EV g fi (.Call (.Attribute o name apos) [e] [] pos) (pAppend P R) := by
  intro d X loc μ Q h A outer base h₀ L m cs im fz s Qc Ec hD F LRR D tk hQ hE
  refine MethodCall_ (pl := pl (fi.env L)) (ho d X loc μ (fun a μ1 => (∃ k ps,a = .mut k ∧ μ1[k]? = some (.lst ps)) ∧ R d X loc μ1 fun b μ2 => match a,b with
    | .mut k,.pv p => match μ1[k]?,μ2[k]? with
      | some (.lst _),some (.lst ps) => ps.length ≤ textLine ∧ Q (.pv .none) (μ2.set k (.lst (ps ++ [p])))
      | _,_ => False
    | _,_ => False) h A outer base h₀ L m cs im fz s _ Ec hD F LRR D tk (fun r1 b1 μ1 cs1 im1 h1 tk1 F1 L1 D1 t1 sb1 pr1 hr1 hq1 => ?_) hE) (hs _)
  obtain ⟨⟨k,ps,rfl,hk⟩,hq1⟩ := hq1
  obtain ⟨a,ha,rfl⟩ := hr1
  rw [hn]
  obtain ⟨a',vs,n,_,ha',hm,hr⟩ := D1.lst hk
  cases ha.symm.trans ha'
  refine listMethod_K D1.N hm PySem.F.slot_list_append PySem.F.type_list_append ?_
  refine PyProof.Rows.callWith_method1 ?_ (hcons _)
  refine args_cons (he d X loc μ1 _ hq1 A outer base h₀ L m cs1 im1 fz _ _ Ec hD F1 L1 D1 t1 (fun r2 b2 μ2 cs2 im2 h2 tk2 F2 L2 D2 t2 sb2 pr2 hr2 hq2 => args_nil ?_) (hE.mono sb1)) (hcons _)
  cases b2 with
  | «mut» => exact hq2.elim
  | rd => exact hq2.elim
  | pv p =>
    dsimp only at hq2
    rw [hk] at hq2
    split at hq2
    · rename_i x1 x2 qs e1 hk2
      obtain ⟨a2,ws,n2,hcell,ha2,hm2,hr2'⟩ := D2.lst hk2
      cases (pr2 _ _ ha).symm.trans ha2
      have U := upd_cell (c' := Cell.lst a (ws ++ [r2]) (n2 + 1)) hcell (pre := []) (post := []) rfl rfl D2.nd D2.dj
      have hsz : ws.toArray.size ≤ sizeLine := by rw [List.size_toArray,← hr2'.length,sizeLine_nat]; have := hq2.1; unfold textLine at this; omega
      have e2 : ws.toArray.push r2 = (ws ++ [r2]).toArray := by simp
      refine append_K F2 D2.N (by rw [e2]; exact U) (fun h' F' N' => ?_) hsz
      have hadr := caddr_set (c' := Cell.lst a (ws ++ [r2]) (n2 + 1)) hcell rfl
      exact hQ .none (.pv .none) _ (cs2.set k (Cell.lst a (ws ++ [r2]) (n2 + 1))) im2 h' tk2 F' (L2.mono Sub.refl (by rw [hadr]; exact Pre.refl))
        (D2.put (c' := Cell.lst a (ws ++ [r2]) (n2 + 1)) (o := MO.lst (qs ++ [p])) hcell rfl rfl N' (hr2'.append ⟨r2,[],rfl,hr2,rfl⟩)) t2 (sb1.trans sb2) ((pr1.trans pr2).trans (by rw [hadr]; exact Pre.refl)) rfl hq2.2
    · exact hq2.elim
end
end Mine
end
section
namespace Mine
section
variable {g : GW} {fi : FI}
theorem ev_no {e : Expr} : EV g fi e fun _ _ _ _ _ => False := fun _ _ _ _ _ h => h.elim
theorem bv_no {e : Expr} : BV g fi e fun _ _ _ _ _ => False := fun _ _ _ _ _ h => h.elim
theorem sv_no {st : Stmt} : SV g fi st fun _ _ _ _ _ _ => False := fun _ _ _ _ _ _ h => h.elim
theorem svs_no {sts : List Stmt} : SVs g fi sts fun _ _ _ _ _ _ => False := fun _ _ _ _ _ _ h => h.elim
noncomputable def setMany (loc : Loc) : List Nat → List PV → Option Loc
  | [],[] => some loc
  | i :: is,p :: ps => setMany (loc.set i (some (.pv p))) is ps
  | _,_ => none
noncomputable def sTup (is : List Nat) (P : PT) : PTS := fun d X loc μ QN _ => P d X loc μ fun v μ' => match v with
  | .pv (.tup ps) => match setMany loc is ps with
    | some loc' => QN loc' μ'
    | none => False
  | _ => False
inductive NamesAt (fi : FI) : List Nat → List Expr → Prop
  | nil : NamesAt fi [] []
  | cons {i : Nat} {is : List Nat} {x : Str} {p : Pos} {es : List Expr} (h1 : fi.names[i]? = some x) (h2 : fi.scope.names.lookup x = some .local) (h3 : NamesAt fi is es) : NamesAt fi (i :: is) (.Name x p :: es)
theorem assign_names {A : Around} {Ec : Value → Shared → Prop} {h₀ : Heap} {L : Addr} {im : Led0} {η : List Addr} {all : Led0} (ok : fi.Ok) {is : List Nat} {es : List Expr} (hn : NamesAt fi is es) : ∀ {ps : List PV} {vs : List Value} {loc loc' : Loc} {s : Shared} {m : Str → Option Value} {Q : Unit → Shared → Prop},PRs g im ps vs → setMany loc is ps = some loc' →
    Fr h₀ L s.heap m → LR g im η fi.names loc m → News h₀ L s.heap all → 0 < s.toks →
    (∀ h' m' tk',Fr h₀ L h' m' → LR g im η fi.names loc' m' → News h₀ L h' all → 0 < tk' → Q () { s with heap := h',toks := tk' }) →
    wpAny (model g.prog g.w) A (assignInOrder ((assignEach es (fi.env L)).map (·.2)) vs) Q Ec s := by
  induction hn with
  | nil =>
    intro ps vs loc loc' s m Q hr hs F LRR N tk q
    cases ps with
    | nil => cases hs; exact assignInOrder_nil (q s.heap m s.toks F LRR N tk)
    | cons => cases hs
  | cons h1 h2 h3 ih =>
    intro ps vs loc loc' s m Q hr hs F LRR N tk q
    cases ps with
    | nil => cases hs
    | cons pv ps =>
      obtain ⟨v,r,e,hv,hr⟩ := hr
      subst e
      refine assignInOrder_cons (wpAny_assign_Name (stN F N (fun h' F' N' => ?_) ok.kind h2))
      exact ih hr hs F' (LRR.set (av := .pv pv) h1 ok.nd hv) N' (Nat.succ_pos _) q
theorem namesAt_len : ∀ {is : List Nat} {es : List Expr} {loc loc' : Loc} {ps : List PV} {vs : List Value} {im : Led0},setMany loc is ps = some loc' → PRs g im ps vs → is.length = vs.length
  | [],_,loc,_,[],_,_,_,e => by cases e; rfl
  | i :: is,es,loc,loc',p :: ps,_,im,h,⟨v,r,e,_,hr⟩ => by
    subst e
    exact congrArg (· + 1) (namesAt_len (es := es) h hr)
  | [],_,_,_,_ :: _,_,_,h,_ => nomatch h
  | _ :: _,_,_,_,[],_,_,h,_ => nomatch h
theorem sv_tup {es : List Expr} {k : Nat} {tpos pos : Pos} {e : Expr} {P : PT} (is : List Nat) (ok : fi.Ok) (hn : NamesAt fi is es) (he : EV g fi e P) (hlen : ∀ env,(assignEach es env).length = is.length)
    (hstar : ∀ env,(assignEach es env).findIdx? (·.1) = none)
    (hs : ∀ env,swapsWithSole [.Tuple es k tpos] e pos.line env = pure false)
    (hw : ∀ env,swappedStores [.Tuple es k tpos] e env = pure none) : SV g fi (.Assign [.Tuple es k tpos] e pos) (sTup is P) := by
  intro d X loc μ QN QR h A outer base h₀ L m cs im fz s Qc Ec hD F LRR D tk hN hR hE
  refine Assign_Tuple (he d X loc μ _ h A outer base h₀ L m cs im fz s _ Ec hD F LRR D tk (fun r1 b1 μ1 cs1 im1 h1 tk1 F1 L1 D1 t1 sb1 pr1 hr1 hq1 => ?_) hE) (hs _) (hw _)
  split at hq1
  · rename_i ps
    split at hq1
    · rename_i loc' hset
      obtain ⟨a,vs,n,rfl,hm,hr⟩ := hr1
      refine unpackN_ F1 D1.N (News.isTup D1.N (D1.im_in hm)) hD.hh (by rw [hlen,List.size_toArray]; exact namesAt_len (es := es) hset hr) (hstar _) fun h' F' N' => ?_
      refine assign_names ok hn hr hset F' L1 N' t1 fun h2 m2 tk2 F2 L2 N2 t2 => ?_
      exact hN loc' μ1 cs1 im1 h2 tk2 m2 F2 L2 (D1.of_news N2) t2 sb1 pr1 hq1
    · exact hq1.elim
  · exact hq1.elim
theorem for_core {x : Str} {px : Pos} {body : List Stmt} {B : PTS} {j : Nat} (ok : fi.Ok) (hj : fi.names[j]? = some x) (hk : fi.scope.names.lookup x = some .local) (hb : SVs g fi body B)
    {A : Around} {outer : List Env} {base h₀ : Heap} {L : Addr} {d : Nat} {I : Addr} {n : Nat} {P : Nat → Value → Prop} {St : Nat → Heap → Prop} (W : Walks g.prog g.w A I [I] [I] n P St) (hSt : ∀ i h,St i h → ∃ o,h.get? I = some o)
    (item : Nat → PV) (hP : ∀ i v,i < n → P i v → ∀ im,PR g im (item i) v) (Inv : Nat → Loc → List MO → Prop) {QN : Loc → List MO → Prop} {QR : AV → List MO → Prop}
    (hturn : ∀ i loc' μ',i < n → Inv i loc' μ' → B d False (loc'.set j (some (.pv (item i)))) μ' (Inv (i + 1)) QR) (hend : ∀ loc' μ',Inv n loc' μ' → QN loc' μ')
    {loc : Loc} {μ : List MO} {m : Str → Option Value} {cs : List Cell} {im fz : Led0} {s : Shared} {R : Result → Shared → Prop} (hD : Dyn g d A (fi.env L) outer base h₀) (F : Fr h₀ L s.heap m) (LRR : LR g im (caddr cs) fi.names loc m) (D : Led g h₀ L s.heap μ cs im fz) (tk : 0 < s.toks)
    (hst : St 0 s.heap) (hI0 : h₀.get? I = none) (hIL : I ≠ L) (hIn : ∀ p ∈ cobjs cs ++ (im ++ fz),p.1 ≠ I) (h0 : Inv 0 loc μ)
    (hN : ∀ loc' μ' cs' im' h' tk' m',Fr h₀ L h' m' → LR g im' (caddr cs') fi.names loc' m' → Led g h₀ L h' μ' cs' im' fz → 0 < tk' → Sub im im' → Pre (caddr cs) (caddr cs') → QN loc' μ' → R (.ok .next) { s with heap := h',toks := tk' })
    (hR : ∀ v b μ' cs' im' h' tk' m',Fr h₀ L h' m' → Led g h₀ L h' μ' cs' im' fz → 0 < tk' → Sub im im' → Pre (caddr cs) (caddr cs') → AR g im' (caddr cs') b v → QR b μ' → R (.ok (.ret v)) { s with heap := h',toks := tk' }) :
    codeAny (model g.prog g.w) A (.forLoop (.Name x px) (.ref I) body [] (fi.env L)) R s := by
  refine codeAny_forLoop_any (fun k s' => ∃ i loc' μ' m' cs' im' h' tk',s' = { s with heap := h',toks := tk' } ∧ St i h' ∧ Fr h₀ L h' m' ∧ LR g im' (caddr cs') fi.names loc' m' ∧ Led g h₀ L h' μ' cs' im' fz ∧ 0 < tk' ∧ Sub im im' ∧ Pre (caddr cs) (caddr cs') ∧ (∀ p ∈ cobjs cs' ++ (im' ++ fz),p.1 ≠ I) ∧ Inv i loc' μ' ∧ i ≤ n ∧ k = n + 1 - i) ?_ (n + 1)
    ⟨0,loc,μ,m,cs,im,s.heap,s.toks,rfl,hst,F,LRR,D,tk,Sub.refl,Pre.refl,hIn,h0,Nat.zero_le _,rfl⟩
  rintro k s' ⟨i,loc',μ',m',cs',im',h',tk',rfl,hst',F',L',D',t',sb,pr,hIn',hInv,hi,rfl⟩
  have old : ∀ b o,h₀.get? b = some o → b ≠ I := fun b o e q => by rw [q,hI0] at e; cases e
  have next : ∀ h₁ : Heap,(∀ b o,b ∉ [I] → h'.get? b = some o → h₁.get? b = some o) → Fr h₀ L h₁ m' ∧ News h₀ L h₁ (cobjs cs' ++ (im' ++ fz)) := fun h₁ hk₁ =>
    ⟨⟨F'.ns.at' fun o e => hk₁ _ o (by simpa using hIL.symm) e,fun b o e => hk₁ b o (by simpa using old b o e) (F'.keep b o e),F'.above⟩,fun p hp => ⟨hk₁ _ _ (by simpa using hIn' p hp) (D'.N p hp).1,(D'.N p hp).2⟩⟩
  by_cases hlt : i < n
  · refine wpAny_with_toks (Nat.le_refl _) (W.item i _ _ _ hlt hst' fun v h₁ tk₁ hPv hst₁ hk₁ ht => ?_)
    have t1 : 0 < tk₁ := Nat.lt_of_lt_of_le t' ht
    refine wpAny_pure ?_
    obtain ⟨F₁,N₁⟩ := next h₁ hk₁
    obtain ⟨o,ho⟩ := hSt _ _ hst₁
    have hv := hP i v hlt hPv
    have D₁ : Led g h₀ L h₁ μ' cs' im' ((I,o) :: fz) := by
      refine ⟨fun p hp => ?_,D'.nd,fun p hp q hq => ?_,fun p hp q hq => ?_,D'.R⟩
      · rcases List.mem_append.mp hp with hp | hp
        · exact N₁ p (List.mem_append_left _ hp)
        · rcases List.mem_append.mp hp with hp | hp
          · exact N₁ p (List.mem_append_right _ (List.mem_append_left _ hp))
          · rcases List.mem_cons.mp hp with rfl | hp
            · exact ⟨ho,hIL,hI0⟩
            · exact N₁ p (List.mem_append_right _ (List.mem_append_right _ hp))
      · rcases List.mem_append.mp hq with hq | hq
        · exact D'.dj p hp q (List.mem_append_left _ hq)
        · rcases List.mem_cons.mp hq with rfl | hq
          · exact hIn' p (List.mem_append_left _ hp)
          · exact D'.dj p hp q (List.mem_append_right _ hq)
      · rcases List.mem_cons.mp hq with rfl | hq
        · exact hIn' p (List.mem_append_right _ (List.mem_append_left _ hp))
        · exact D'.df p hp q hq
    have offz : ∀ p ∈ fz,p.1 ≠ I := fun p hp => hIn' p (List.mem_append_right _ (List.mem_append_right _ hp))
    have off : ∀ {μ2 cs2 im2 h2},Led g h₀ L h2 μ2 cs2 im2 ((I,o) :: fz) → Led g h₀ L h2 μ2 cs2 im2 fz ∧ (∀ p ∈ cobjs cs2 ++ (im2 ++ fz),p.1 ≠ I) ∧ h2.get? I = some o := fun D2 =>
      ⟨⟨fun p hp => D2.N p (by
          rcases List.mem_append.mp hp with hp | hp
          · exact List.mem_append_left _ hp
          · rcases List.mem_append.mp hp with hp | hp
            · exact List.mem_append_right _ (List.mem_append_left _ hp)
            · exact List.mem_append_right _ (List.mem_append_right _ (.tail _ hp))),D2.nd,fun p hp q hq => D2.dj p hp q (by
          rcases List.mem_append.mp hq with hq | hq
          · exact List.mem_append_left _ hq
          · exact List.mem_append_right _ (.tail _ hq)),fun p hp q hq => D2.df p hp q (.tail _ hq),D2.R⟩,
        fun p hp => by
          rcases List.mem_append.mp hp with hp | hp
          · exact D2.dj p hp (I,o) (List.mem_append_right _ (.head _))
          · rcases List.mem_append.mp hp with hp | hp
            · exact D2.df p hp (I,o) (.head _)
            · exact offz p hp,
        (D2.N (I,o) (List.mem_append_right _ (List.mem_append_right _ (.head _)))).1⟩
    refine wpAny_assign_Name (stN F₁ D₁.N (fun h2 F2 N2 => ?_) ok.kind hk)
    refine hb d False _ μ' _ _ (hturn i loc' μ' hlt hInv) A outer base h₀ L _ cs' im' ((I,o) :: fz) _ _ _ hD F2 (L'.set (av := .pv (item i)) hj ok.nd (hv im')) (D₁.of_news N2) (Nat.succ_pos _) (fun loc3 μ3 cs3 im3 h3 tk3 m3 F3 L3 D3 t3 sb3 pr3 q3 => ?_) (fun v b μ3 cs3 im3 h3 tk3 m3 F3 D3 t3 sb3 pr3 hr3 q3 => ?_) EXPT.no
    · obtain ⟨D4,off4,ho4⟩ := off D3
      refine ⟨n + 1 - (i + 1),by omega,i + 1,loc3,μ3,m3,cs3,im3,h3,tk3,rfl, ?_,F3,L3,D4,t3,sb.trans sb3,pr.trans pr3,off4,q3,hlt,rfl⟩
      refine W.frame _ _ _ hst₁ fun b hb' o' e => ?_
      rw [List.mem_singleton.mp hb',ho] at e
      cases e
      rw [List.mem_singleton.mp hb']
      exact ho4
    · exact hR v b μ3 cs3 im3 h3 tk3 m3 F3 (off D3).1 t3 (sb.trans sb3) (pr.trans pr3) hr3 q3
  · have hin : i = n := by omega
    subst hin
    refine wpAny_with_toks (Nat.le_refl _) (W.done _ _ _ hst' fun h₁ tk₁ hk₁ ht => wpAny_execs_nil ?_)
    obtain ⟨F₁,N₁⟩ := next h₁ hk₁
    exact hN loc' μ' cs' im' h₁ tk₁ m' F₁ L' (D'.of_news N₁) (Nat.lt_of_lt_of_le t' ht) sb pr (hend _ _ hInv)
end
end Mine
end
section
namespace Mine
section
variable {g : GW} {fi : FI}
noncomputable def sign (x : Str) (i : Nat) : Str := ⟨#[x.cps.getD i 0]⟩
noncomputable def sForStr (j : Nat) (P : PT) (B : PTS) : PTS := fun d X loc μ QN QR => P d X loc μ fun v μ1 => match v with
  | .pv (.str x) => ∃ Inv : Nat → Loc → List MO → Prop,Inv 0 loc μ1 ∧ (∀ i loc' μ',i < x.cps.size → Inv i loc' μ' → B d False (loc'.set j (some (.pv (.str (sign x i))))) μ' (Inv (i + 1)) QR) ∧ ∀ loc' μ',Inv x.cps.size loc' μ' → QN loc' μ'
  | _ => False
theorem sv_forStr {x : Str} {px pos : Pos} {e : Expr} {body : List Stmt} {P : PT} {B : PTS} (j : Nat) (ok : fi.Ok) (hj : fi.names[j]? = some x) (hk : fi.scope.names.lookup x = some .local) (he : EV g fi e P) (hb : SVs g fi body B)
    (hs : ∀ env y,foldedSetIterable e env y = pure y) : SV g fi (.For (.Name x px) e body [] pos) (sForStr j P B) := by
  intro d X loc μ QN QR h A outer base h₀ L m cs im fz s Qc Ec hD F LRR D tk hN hR hE
  refine wpAny_For (he d X loc μ _ h A outer base h₀ L m cs im fz s _ Ec hD F LRR D tk (fun r1 b1 μ1 cs1 im1 h1 tk1 F1 L1 D1 t1 sb1 pr1 hr1 hq1 => ?_) hE) (hs _)
  split at hq1
  · rename_i y
    obtain ⟨t,rfl⟩ := hr1
    obtain ⟨Inv,i0,iT,iE⟩ := hq1
    have fresh : ∀ p ∈ cobjs cs1 ++ (im1 ++ fz),p.1 ≠ h1.objs.size := fun p hp e => Nat.lt_irrefl _ (e ▸ Heap.lt_size (D1.N p hp).1)
    have hL : h1.objs.size ≠ L := fun e => by have := F1.ns.lt; rw [← e] at this; exact Nat.lt_irrefl _ this
    have h0 : h₀.get? h1.objs.size = none := by
      cases e : h₀.get? h1.objs.size with
      | none => rfl
      | some o => exact absurd (Heap.lt_size (F1.keep _ _ e)) (Nat.lt_irrefl _)
    have go : ∀ (o : Obj) (ty : String),(∀ (i : Nat) (h : Heap),h.IsStrIter h1.objs.size ty y t i → ∃ o,h.get? h1.objs.size = some o) → Walks g.prog g.w A h1.objs.size [h1.objs.size] [h1.objs.size] y.cps.size (SignAt y) (fun i h => h.IsStrIter h1.objs.size ty y t i) → (h1.push o).IsStrIter h1.objs.size ty y t 0 →
        codeAny (model g.prog g.w) A (.forLoop (.Name x px) (.ref h1.objs.size) body [] (fi.env L)) (fun r s' => match r with | .ok f => Qc f s' | .error e => cameBackBy (model g.prog g.w) A (fi.env L) Ec e s') { s with heap := h1.push o,toks := tk1 } := fun o ty hSt W st =>
      for_core ok hj hk hb W hSt (fun i => .str (sign y i)) (fun i v hi hp im => by
          obtain ⟨c,u,hc,rfl⟩ := hp
          exact ⟨u,by unfold sign; rw [Array.getD_eq_getD_getElem?,hc]; rfl⟩) Inv iT iE (s := { s with heap := h1.push o,toks := tk1 }) hD (F1.push _) L1 (D1.of_news fun p hp => ⟨Heap.get?_push_of_some _ (D1.N p hp).1,(D1.N p hp).2⟩) t1 st h0 hL fresh i0
        (fun loc' μ' cs' im' h' tk' m' F' L' D' t' sb pr q => hN loc' μ' cs' im' h' tk' m' F' L' D' t' (sb1.trans sb) (pr1.trans pr) q)
        (fun v b μ' cs' im' h' tk' m' F' D' t' sb pr hr q => hR v b μ' cs' im' h' tk' m' F' D' t' (sb1.trans sb) (pr1.trans pr) hr q)
    cases ha : y.cps.all (· < 128)
    · exact wpAny_pyIter_wide ha (go _ "str_iterator" (fun i h st => let ⟨o,ho,_⟩ := st; ⟨o,ho⟩) (Walks.strWide hD.hh _ y t) ⟨_,Heap.get?_push_size _ rfl,rfl,rfl⟩)
    · exact wpAny_pyIter_ascii ha (go _ "str_ascii_iterator" (fun i h st => let ⟨o,ho,_⟩ := st; ⟨o,ho⟩) (Walks.strAscii hD.hh _ y t) ⟨_,Heap.get?_push_size _ rfl,rfl,rfl⟩)
  · exact hq1.elim
noncomputable def sForRange (j : Nat) (P : PTL) (B : PTS) : PTS := fun d X loc μ QN QR => P d X loc μ fun vs μ1 => match vs with
  | [.pv (.int n)] => 0 ≤ n ∧ n < 2 ^ 62 ∧ ∃ Inv : Nat → Loc → List MO → Prop,Inv 0 loc μ1 ∧ (∀ i loc' μ',i < n.toNat → Inv i loc' μ' → B d False (loc'.set j (some (.pv (.int i)))) μ' (Inv (i + 1)) QR) ∧ ∀ loc' μ',Inv n.toNat loc' μ' → QN loc' μ'
  | _ => False
theorem sv_forRange {x rn : Str} {px np pos cpos : Pos} {e : Expr} {body : List Stmt} {P : PTL} {B : PTS} (j : Nat) (ok : fi.Ok) (hj : fi.names[j]? = some x) (hk : fi.scope.names.lookup x = some .local)
    (hkr : fi.scope.names.lookup rn = some .globalImplicit) (hd : (rn == ("__debug__" : Str)) = false) (hv : nsIn g.K mainGlobals rn = some none) (hbb : bootBuiltins rn = some (.type "range")) (hn : rn ≠ "__name__")
    (he : LV g fi cpos [e] P) (hb : SVs g fi body B) (hcons : ∀ env,starEach [e] env = [(false,eval e env)])
    (hs : ∀ env y,foldedSetIterable (.Call (.Name rn np) [e] [] cpos) env y = pure y) : SV g fi (.For (.Name x px) (.Call (.Name rn np) [e] [] cpos) body [] pos) (sForRange j P B) := by
  intro d X loc μ QN QR h A outer base h₀ L m cs im fz s Qc Ec hD F LRR D tk hN hR hE
  refine wpAny_For (Call_ (name_B F hD.X (topRead_of hD.T) hv hbb hn ?_ ok.kind hkr hd) rfl) (hs _)
  refine PyProof.Rows.callWith_type1 ?_ (hcons _)
  refine he d X loc μ _ h A outer base h₀ L m cs im fz s _ Ec hD F LRR D tk (fun r1 b1 μ1 cs1 im1 h1 tk1 F1 L1 D1 t1 sb1 pr1 hr1 hq1 => ?_) hE
  split at hq1
  · rename_i n
    obtain ⟨h0n,h1n,Inv,i0,iT,iE⟩ := hq1
    obtain ⟨_,_,rfl,⟨t,rfl⟩,rfl⟩ := hr1
    have keepN : ∀ {h2 : Heap} (o : Obj),News h₀ L h2 (cobjs cs1 ++ (im1 ++ fz)) → News h₀ L (h2.push o) (cobjs cs1 ++ (im1 ++ fz)) := fun o N p hp => ⟨Heap.get?_push_of_some _ (N p hp).1,(N p hp).2⟩
    refine call_range_1 ?_
    refine wpAny_pyIter_range (a := 0) (b := n) (c := 1) (IsRange.new ..) (small_one (by omega) (by omega) (by omega) (by omega)) ?_
    have F2 := (F1.push { cls := .type "range",data := .fields #[.int 0 tk1,.int n t,.int 1 (tk1 + 1)] })
    have N2 := keepN { cls := .type "range",data := .fields #[.int 0 tk1,.int n t,.int 1 (tk1 + 1)] } D1.N
    generalize h1.push { cls := .type "range",data := .fields #[.int 0 tk1,.int n t,.int 1 (tk1 + 1)] } = h2 at F2 N2
    have D2 := D1.of_news N2
    have fresh : ∀ p ∈ cobjs cs1 ++ (im1 ++ fz),p.1 ≠ h2.objs.size := fun p hp e => Nat.lt_irrefl _ (e ▸ Heap.lt_size (N2 p hp).1)
    have hL : h2.objs.size ≠ L := fun e => by have := F2.ns.lt; rw [← e] at this; exact Nat.lt_irrefl _ this
    have h0 : h₀.get? h2.objs.size = none := by
      cases e : h₀.get? h2.objs.size with
      | none => rfl
      | some o => exact absurd (Heap.lt_size (F2.keep _ _ e)) (Nat.lt_irrefl _)
    have hsz : Builtin.Range.rangeSize 0 n 1 = ((n.toNat : Nat) : Int) := by rw [rangeSize_one]; split <;> omega
    refine for_core ok hj hk hb (LCg.range_walks hD.hh 0 n.toNat) (fun i h st => ⟨_,st⟩) (fun i => .int i) (fun i v hi hp im => by
          obtain ⟨u,rfl⟩ := hp
          exact ⟨u,by rw [Int.zero_add]⟩) Inv iT iE hD (F2.push _) L1 (D2.of_news (keepN _ N2)) ?_ ?_ h0 hL fresh i0
        (fun loc' μ' cs' im' h' tk' m' F' L' D' t' sb pr q => hN loc' μ' cs' im' h' tk' m' F' L' D' t' (sb1.trans sb) (pr1.trans pr) q)
        (fun v b μ' cs' im' h' tk' m' F' D' t' sb pr hr q => hR v b μ' cs' im' h' tk' m' F' D' t' (sb1.trans sb) (pr1.trans pr) hr q)
    · exact Nat.succ_pos _
    · rw [hsz]; exact Heap.get?_push_size _ rfl
  · exact hq1.elim
noncomputable def pPow (P R : PT) : PT := fun d X loc μ Q => P d X loc μ fun a μ1 => R d X loc μ1 fun b μ2 => match a,b with
  | .pv (.int x),.pv (.int n) => 0 ≤ n ∧ n ≤ 1000000 ∧ x.natAbs < 2 ^ 64 ∧ Q (.pv (.int (x ^ n.toNat))) μ2
  | _,_ => False
theorem ev_pow {l r : Expr} {pos : Pos} {P R : PT} (hl : EV g fi l P) (hr : EV g fi r R) : EV g fi (.BinOp l .Pow r pos) (pPow P R) := by
  intro d X loc μ Q h A outer base h₀ L m cs im fz s Qc Ec hD F LRR D tk hQ hE
  refine wpAny_BinOp (hl d X loc μ _ h A outer base h₀ L m cs im fz s _ Ec hD F LRR D tk (fun r1 b1 μ1 cs1 im1 h1 tk1 F1 L1 D1 t1 sb1 pr1 hr1 hq1 => ?_) hE)
  refine hr d X loc μ1 _ hq1 A outer base h₀ L m cs1 im1 fz _ _ Ec hD F1 L1 D1 t1 (fun r2 b2 μ2 cs2 im2 h2 tk2 F2 L2 D2 t2 sb2 pr2 hr2 hq2 => ?_) (hE.mono sb1)
  have hr1' := AR.mono sb2 pr2 hr1
  split at hq2
  · obtain ⟨t,rfl⟩ := hr1'
    obtain ⟨u,rfl⟩ := hr2
    exact pow_int_small hq2.1 hq2.2.1 hq2.2.2.1 (hQ _ (.pv (.int _)) μ2 cs2 im2 h2 (tk2 + 1) F2 L2 D2 (Nat.succ_pos _) (sb1.trans sb2) (pr1.trans pr2) ⟨_,rfl⟩ hq2.2.2.2)
  · exact hq2.elim
mutual
noncomputable def pdOf : PV → Option PyData
  | .none => some .none
  | .bool b => some (.bool b)
  | .int i => some (.int i)
  | .str s => some (.str s)
  | .tup xs => (pdsOf xs).map .tuple
  | .lst xs => (pdsOf xs).map .list
  | _ => none
noncomputable def pdsOf : List PV → Option (List PyData)
  | [] => some []
  | x :: xs => match pdOf x,pdsOf xs with
    | some y,some ys => some (y :: ys)
    | _,_ => none
end
mutual
theorem pd_reads {im : Led0} {h : Heap} (N : ∀ p ∈ im,h.get? p.1 = some p.2) : ∀ {p : PV} {d : PyData} {v : Value},pdOf p = some d → PR g im p v → ∃ as,Reads h v d as
  | .none,d,v,e,r => by cases e; cases r; exact ⟨_,.none⟩
  | .bool b,d,v,e,r => by cases e; cases r; exact ⟨_,.bool b⟩
  | .int i,d,v,e,⟨t,r⟩ => by cases e; cases r; exact ⟨_,.int i t⟩
  | .str x,d,v,e,⟨t,r⟩ => by cases e; cases r; exact ⟨_,.str x t⟩
  | .tup xs,d,v,e,⟨a,vs,n,r,hm,hr⟩ => by
    rw [pdOf] at e
    obtain ⟨ds,hd,rfl⟩ := Option.map_eq_some_iff.mp e
    cases r
    obtain ⟨as,has⟩ := pds_reads N hd hr
    exact ⟨as,.tuple (N _ hm) rfl rfl (by simpa using has)⟩
  | .lst xs,d,v,e,⟨a,vs,n,r,hm,hr⟩ => by
    rw [pdOf] at e
    obtain ⟨ds,hd,rfl⟩ := Option.map_eq_some_iff.mp e
    cases r
    obtain ⟨as,has⟩ := pds_reads N hd hr
    exact ⟨a :: as,.list (N _ hm) rfl rfl (by simpa using has)⟩
  | .inst _ _,d,v,e,r => by simp [pdOf] at e
  | .top _,d,v,e,r => by simp [pdOf] at e
  | .blt _,d,v,e,r => by simp [pdOf] at e
  | .scr,d,v,e,r => by simp [pdOf] at e
theorem pds_reads {im : Led0} {h : Heap} (N : ∀ p ∈ im,h.get? p.1 = some p.2) : ∀ {ps : List PV} {ds : List PyData} {vs : List Value},pdsOf ps = some ds → PRs g im ps vs → ∃ as,ReadsAll h vs ds as
  | [],ds,vs,e,r => by rw [pdsOf] at e; cases e; cases r; exact ⟨_,.nil⟩
  | p :: ps,ds,vs,e,⟨v,r,hv,h1,h2⟩ => by
    rw [pdsOf] at e
    subst hv
    split at e
    · rename_i y ys hy hys
      cases e
      obtain ⟨as,ha⟩ := pd_reads N hy h1
      obtain ⟨bs,hb⟩ := pds_reads N hys h2
      exact ⟨as ++ bs,.cons ha hb⟩
    · cases e
end
noncomputable def cmpD (ne : Bool) : AV → AV → Option Bool
  | .pv a,.pv b => match pdOf a,pdOf b with
    | some x,some y => if x.layable0 && y.layable0 then some (ne ^^ PyData.eqv x y) else none
    | _,_ => none
  | _,_ => none
theorem cmpD_ok {A : Around} {Ec : Value → Shared → Prop} {s : Shared} {h₀ : Heap} {L : Addr} {μ : List MO} {cs : List Cell} {im fz : Led0} {ne : Bool} {a b : AV} {va vb : Value} {c : Bool} {Q : Value → Shared → Prop} (h : cmpD ne a b = some c)
    (D : Led g h₀ L s.heap μ cs im fz) (ra : AR g im (caddr cs) a va) (rb : AR g im (caddr cs) b vb) (hu : A.units + 64 < cLine) (q : Q (.bool c) s) : wpAny (model g.prog g.w) A (compareOp (if ne then .NotEq else .Eq) va vb) Q Ec s := by
  unfold cmpD at h
  split at h
  · split at h
    · rename_i x y hx hy
      split at h
      · rename_i hlay
        cases h
        rw [Bool.and_eq_true] at hlay
        have N : ∀ p ∈ im,s.heap.get? p.1 = some p.2 := fun p hp => (D.N p (D.im_in hp)).1
        obtain ⟨as,ha⟩ := pd_reads N hx ra
        obtain ⟨bs,hb'⟩ := pd_reads N hy rb
        cases ne with
        | true => exact SeqAt.compareNe_layable ha hb' hlay.1 hlay.2 hu (by simpa using q)
        | false => exact SeqAt.compareEq_layable ha hb' hlay.1 hlay.2 hu (by simpa using q)
      · cases h
    · cases h
  · cases h
theorem Dyn.unit {d : Nat} {A : Around} {env : Env} {outer : List Env} {base h₀ : Heap} (h : Dyn g d A env outer base h₀) : A.units + 64 < cLine := by
  have := h.un
  unfold cLine
  omega
noncomputable def pCmpD (ne : Bool) (P R : PT) : PT := fun d X loc μ Q => P d X loc μ fun a μ1 => R d X loc μ1 fun b μ2 => match cmpD ne a b with
  | some c => Q (.pv (.bool c)) μ2
  | none => False
theorem ev_cmpD {l r : Expr} {pos : Pos} {P R : PT} (ne : Bool) (hl : EV g fi l P) (hr : EV g fi r R) (hb : behindInMarks (if ne then .NotEq else .Eq) r = false) : EV g fi (.Compare l [if ne then .NotEq else .Eq] [r] pos) (pCmpD ne P R) := by
  intro d X loc μ Q h A outer base h₀ L m cs im fz s Qc Ec hD F LRR D tk hQ hE
  refine wpAny_Compare1 (hl d X loc μ _ h A outer base h₀ L m cs im fz s _ Ec hD F LRR D tk (fun r1 b1 μ1 cs1 im1 h1 tk1 F1 L1 D1 t1 sb1 pr1 hr1 hq1 => ?_) hE) hb
  refine hr d X loc μ1 _ hq1 A outer base h₀ L m cs1 im1 fz _ _ Ec hD F1 L1 D1 t1 (fun r2 b2 μ2 cs2 im2 h2 tk2 F2 L2 D2 t2 sb2 pr2 hr2 hq2 => ?_) (hE.mono sb1)
  split at hq2
  · rename_i c hc
    exact cmpD_ok hc D2 (AR.mono sb2 pr2 hr1) hr2 hD.unit (hQ (.bool _) (.pv (.bool _)) μ2 cs2 im2 h2 tk2 F2 L2 D2 t2 (sb1.trans sb2) (pr1.trans pr2) rfl hq2)
  · exact hq2.elim
end
end Mine
end
section
namespace Mine
noncomputable abbrev excTail : List Value := [.ref 297,.ref 284,.type "Exception",.type "BaseException",.type "object"]
noncomputable abbrev excObjOf (t : Addr) : Obj := { cls := .ref 316,data := .fields #[.ref t,.none,.none,.none,.bool false,.none] }
section
variable {prog : Program} {w : World} {A : Around} {R : Result → Shared → Prop} {h : Heap} {g : Array GenState} {d : Drawn} {t : Nat} {os : OsState}
variable {nm q : Str} {N : Addr} {bs : List Value} {sn : List Str} {sub : List Value} {col : Option Bool} {dd : Option Addr} {k0 k1 k2 k3 k5 : Option Value}
theorem cE : (Value.ref 316 :: excTail).contains (.type "Exception") = true := by decide
theorem cA : (Value.ref 316 :: excTail).contains (.type "AttributeError") = false := by decide
theorem cN : (Value.ref 316 :: excTail).contains (.type "NameError") = false := by decide
theorem cO : (Value.ref 316 :: excTail).contains (.ref 316) = true := by decide
theorem check_newX {M : Model} {E : Value → Shared → Prop} {rest : List Value} {Q : Unit → Shared → Prop} (hC : h.get? 316 = some (excClassObj nm q 316 N bs excTail true sn sub false col dd k0 k1 k2 k3 k5 "Exception.__new__"))
    (hq : Q () ⟨h,g,d,t,os⟩) : wpAny M A (checkBuiltinCall "Exception.__new__" ⟨.ref 316 :: rest,[]⟩) Q E ⟨h,g,d,t,os⟩ := by
  have Fn := PySem.F.excBase_Exception
  have hcont := cE
  have hstar := Fn.noStar
  simp only [checkBuiltinCall,Fn.newKind,Fn.newSplit,Fn.newRow]
  repeat (first | refine wpAny_loadPart_at hC ?_ | (refine wpAny_isSubtype_exc hC ?_; rw [hcont]) | refine wpAny_staticBase_exc hC ?_ | refine wpAny_madeBy_exc hC ?_ | simp only [bne_self_eq_false,Bool.false_eq_true,if_false] | wp_step)
  exact hq
theorem exc_newX {rest : List Value} (hC : h.get? 316 = some (excClassObj nm q 316 N bs excTail true sn sub false col dd k0 k1 k2 k3 k5 "Exception.__new__"))
    (hq : R (.ok (.ret (.ref (h.objs.size + 1)))) ⟨(h.push (tupObj rest 0)).push (excObjOf h.objs.size),g,d,t,os⟩) (hrest : rest.length ≤ sizeLine) :
    codeAny (model prog w) A (.builtin "Exception.__new__" ⟨.ref 316 :: rest,[]⟩) R ⟨h,g,d,t,os⟩ := by
  have Fn := PySem.F.excBase_Exception
  have hends := Fn.ends
  have hcB := cE
  have hcA := cA
  have hcN := cN
  refine codeAny_builtinAt Fn.entry ?_
  unfold Builtin.«BaseException.__new__»
  refine PySem.wpAt_bind ?_
  show PySem.wpAt _ _ _ (stack >>= _) _ _ _
  refine PySem.wpAt_bind (PySem.wpAt_stack fun p below => PySem.wpAt_of_wpAny ?_)
  wp_walk
  refine PySem.wpAt_of_wpAny ?_
  rw [Fn.owner]
  repeat (first | with_reducible refine wpAny_madeHere_exc Fn.canon hC ?_ | with_reducible refine wpAny_loadPart_at hC ?_ | (with_reducible refine wpAny_isSubtype_exc hC ?_; first | rw [hcB] | rw [hcA] | rw [hcN]) | wp_step)
  show R _ _
  rw [Heap.size_push]
  exact hq
theorem exc_make {rest : List Value} {f : Addr} (hC : h.get? 316 = some (excClassObj nm q 316 N bs excTail true sn sub false col dd k0 k1 k2 k3 k5 "Exception.__new__")) (hrest : rest.length ≤ sizeLine)
    (hi : Looks (model prog w) h (typeLookup (.ref 316) "__init__") (some (.ref f))) (hb : ∀ self,Looks (model prog w) h (bindSpecial (.ref f) self) (.ref f,[self]))
    (hq : codeAny (model prog w) (A.under (.builtin "type.__call__" ⟨.ref 316 :: rest,[]⟩)) (.call (.ref f) ⟨.ref (h.objs.size + 1) :: rest,[]⟩) (InitBack (h.objs.size + 1) R) ⟨(h.push (tupObj rest 0)).push (excObjOf h.objs.size),g,d,t,os⟩) :
    codeAny (model prog w) A (.call (.ref 316) ⟨rest,[]⟩) R ⟨h,g,d,t,os⟩ := by
  have f1 := tc_lookup
  have f2 := tc_bind (.ref 316)
  have Fn := PySem.F.excBase_Exception
  have hT : (⟨h,g,d,t,os⟩ : Shared).TypeIs (.ref 316) "type" := ⟨_,hC,rfl⟩
  refine codeAny_mono (R := fun r s' => match r with | .ok (.ret v) => R (.ok (.ret v)) s' | .ok _ => False | .error e => R (.error e) s') (codeAny_of_tree ?_) (fun r s' hr => ?_)
  · show wpAny _ _ (callAny (.ref 316) _) _ _ _
    repeat (any_goals (first | assumption | with_reducible refine wpAny_loadPart_at hC ?_ | wp_step))
    refine ⟨rfl, ?_⟩
    refine codeAny_call_builtin_at (Code.quiet_builtin _ (by decide +kernel)) entry_typeCall (wpAny_check_type_call_sub hC ?_)
    repeat (first | with_reducible refine wpAny_loadPart_at hC ?_ | with_reducible refine wpAny_madeBy_exc hC ?_ | wp_step)
    refine codeAny_call_builtin_code (Code.quiet_builtin _ Fn.quiet) (check_newX hC ?_)
    refine exc_newX hC ?_ hrest
    show wpAny _ _ _ _ _ _
    have k : ∀ b o,h.get? b = some o → ((h.push (tupObj rest 0)).push (excObjOf h.objs.size)).get? b = some o := fun b o e => Heap.get?_push_of_some _ (Heap.get?_push_of_some _ e)
    have hC₁ := k _ _ hC
    have hget : ((h.push (tupObj rest 0)).push (excObjOf h.objs.size)).get? (h.objs.size + 1) = some (excObjOf h.objs.size) := by heap_get
    have hcC := cO
    have i1 := hi.keeps k
    have b1 := (hb (.ref (h.objs.size + 1))).keeps k
    unfold isInstance
    repeat (first | with_reducible refine wpAny_loadPart_at hget ?_ | (with_reducible refine wpAny_isSubtype_exc hC₁ ?_; rw [hcC]) | wp_step)
    refine wpAny_isSubtype_exc hC₁ ?_
    rw [hcC]
    have t1 : Looks (model prog w) ((h.push (tupObj rest 0)).push (excObjOf h.objs.size)) (typeOf (.ref (h.objs.size + 1))) (.ref 316) := (Looks.ld hget).andThen .now
    unfold callSpecial? specialOf
    simp only [Bool.not_true,Bool.false_eq_true,if_false,List.append_eq,List.nil_append,List.cons_append]
    repeat (first | with_reducible refine wpAny_call ?_ | lk)
    refine codeAny_mono hq fun r s' z => ?_
    rcases r with e | (v | _ | _ | _) <;> first | exact z | exact z.elim | skip
    obtain ⟨rfl,z⟩ := z
    exact wpAny_pure (wpAny_pure z)
  · match r,hr with
    | .ok (.ret v),hr => exact hr
    | .error e,hr => exact hr
end
end Mine
end
section
open PySem PySem.W PySem.Spec PySem.Calls PyProof.Rows Builtin Builtin.ObjectAttr Builtin.Getset_descriptor
namespace Mine
section
variable {prog : Program} {w : World} {A : Around} {E : Value → Shared → Prop} {h : Heap} {g : Array GenState} {d : Drawn} {t : Nat} {os : OsState}
variable {nm q : Str} {N x : Addr} {bs : List Value} {sn : List Str} {sub : List Value} {col : Option Bool} {dd : Option Addr} {k0 k1 k2 k3 k5 : Option Value}
  {mA : Str → Option Value} {name : Str} {v : Value}
theorem exc_passes (self : Value) : refuseLoop self "__setattr__" (.ref 316 :: excTail) = pure () := by
  rw [refuseLoop_ref,refuseLoop_ref,refuseLoop_ref]; exact PySem.F.store_Exception.passes self
theorem exc_store_entry {tk : Tok} {Q : PySem.Fin → Shared → Prop} {ns : List Str}
    (hC : h.get? 316 = some (excClassObj nm q 316 N bs excTail true sn sub false col dd k0 k1 k2 k3 k5 "Exception.__new__"))
    (hna : Looks (model prog w) h (typeLookup (.ref 316) name) none) (I : h.Inst x 316 mA)
    (hq : ∀ h' tk',h'.Inst x 316 (fun y => if y = name then some v else mA y) →
      (∀ b o,b ≠ x → (∀ o₀ dx,h.get? x = some o₀ → o₀.dict = some dx → b ≠ dx) → h.get? b = some o → h'.get? b = some o) →
      (∀ o₀,h.get? x = some o₀ → ∃ o₁,h'.get? x = some o₁ ∧ o₁.cls = o₀.cls ∧ o₁.data = o₀.data ∧ (∀ dx,o₀.dict = some dx → o₁.dict = some dx) ∧ (o₀.dict = none → ∃ dx,o₁.dict = some dx ∧ h.get? dx = none)) → Q (.done (.ret .none)) ⟨h',g,d,tk',os⟩)
    (hw : Within mA ns) (hsz : ns.length ≤ 1000) :
    wpAny (model prog w) A (Builtin.«object.__setattr__» ⟨[.ref x,.str name tk,v],[]⟩) Q E ⟨h,g,d,t,os⟩ := by
  obtain ⟨o,hx,hc,hnc,hd⟩ := I
  have hpass := exc_passes (.ref x)
  have hm : Looks (model prog w) h (mroOf (.ref 316)) (.ref 316 :: excTail) := fun A Q E s k q => by
    obtain ⟨hh,g,d,t,os⟩ := s
    exact wpAny_mroOf_exc (k _ _ hC) q
  have ht : Looks (model prog w) h (typeOf (.ref x)) (.ref 316) := by rw [← hc]; exact (Looks.ld hx).andThen .now
  have L3 : Looks (model prog w) h (storeTaker? none) none := .now
  rw [osa_eq,refuse_eq]
  refine wpAny_bind (wpAny_bind (ht.here (wpAny_bind (hm.here ?_))))
  rw [hpass]
  refine wpAny_pure (wpAny_bind (ht.here (wpAny_bind (hna.here (wpAny_bind (L3.here ?_))))))
  dsimp only
  repeat (first | (with_reducible refine wpAny_loadPart_at hx ?_; rw [hc]) | (with_reducible refine wpAny_loadPart_at hC ?_) | wp_step)
  rcases hd with ⟨hdn,hmA⟩ | ⟨dx,hdx,hne,hns⟩
  · rw [hdn,if_neg (by simp [typeHasDict])]
    split
    · rename_i hcd
      cases hcd
    split
    · rename_i c hcd
      exact absurd hcd (hnc c)
    · have hx₁ : (h.push { cls := .type "dict",data := .dict #[] }).get? x = some o := Heap.get?_push_of_some _ hx
      have hxs : x ≠ h.objs.size := Nat.ne_of_lt (Heap.lt_size hx)
      refine wpAny_bind (wpAny_alloc' (wpAny_bind (wpAny_update' hx₁ (wpAny_pure ?_))))
      have hgd : ((h.push { cls := .type "dict",data := .dict #[] }).update x fun o => { cls := o.cls,dict := some h.objs.size,data := o.data,slots := o.slots }).get? h.objs.size
          = some { cls := .type "dict",data := .dict #[] } :=
        (Heap.get?_update_ne _ _ _ _ hxs.symm).trans (Heap.get?_push_at rfl rfl)
      have hnd : ((h.push { cls := .type "dict",data := .dict #[] }).update x fun o => { cls := o.cls,dict := some h.objs.size,data := o.data,slots := o.slots }).Ns h.objs.size (fun _ => none) :=
        ⟨_,#[],_,hgd,rfl,fun e he => absurd he (by simp),fun _ => rfl⟩
      show wpAny _ _ (storeInDict h.objs.size (.str name tk) name v) _ _ _
      unfold storeInDict newKeyGuard
      refine wpAny_bind (wpAny_pure (wpAny_bind (wpAny_nsSet1 (Heap.Ns1.of_empty hnd) fun h' hn' hs => ?_)))
      obtain ⟨oD,esD,epD,hoD,hdD,hcD⟩ := hn'.count (Within.cons name v Within.nil)
      refine wpAny_bind (wpAny_lookBehind hoD (by rw [hdD]; exact pastItsLine_dict (Nat.le_trans hcD (by rw [List.length_cons,List.length_nil,sizeLine_eq]; omega))) ?_)
      wp_walk
      have hx' : h'.get? x = some { cls := o.cls,dict := some h.objs.size,data := o.data,slots := o.slots } := by
        refine (hs.2 x hxs).trans (Heap.get?_update_self _ hx₁ ?_)
        have hfr := (Heap.get?_some_iff.mp hx).2
        obtain ⟨oc,od,odt,osl⟩ := o
        cases odt <;> first | rfl | exact hfr
      refine hq h' _ ⟨{ cls := o.cls,dict := some h.objs.size,data := o.data,slots := o.slots },hx',hc,hnc,.inr ⟨h.objs.size,rfl,hxs.symm, ?_⟩⟩ (fun b ob hbx _ hb => ?_)
        (fun o₀ h₀ => by
          obtain rfl : o = o₀ := Option.some.inj (hx.symm.trans h₀)
          exact ⟨_,hx',rfl,rfl,(fun dx e => by rw [hdn] at e; cases e),fun _ => ⟨_,rfl,Heap.get?_none_of_le (Nat.le_refl _)⟩⟩)
      · obtain ⟨o',es,ep,e1,e2,e3,eu,e4⟩ := hn'
        exact ⟨o',es,ep,e1,e2,e3,eu,fun y => by rw [e4 y]; by_cases hy : y = name <;> simp [hy,hmA]⟩
      · exact (hs.2 b (Nat.ne_of_lt (Heap.lt_size hb))).trans ((Heap.get?_update_ne _ _ _ _ hbx).trans (Heap.get?_push_of_some _ hb))
  · rw [hdx]
    refine wpAny_pure ?_
    show wpAny _ _ (storeInDict dx (.str name tk) name v) _ _ _
    unfold storeInDict newKeyGuard
    refine wpAny_bind (wpAny_pure (wpAny_bind (wpAny_nsSet1 hns fun h' hn' hs => ?_)))
    obtain ⟨oD,esD,epD,hoD,hdD,hcD⟩ := hn'.count (Within.cons name v hw)
    refine wpAny_bind (wpAny_lookBehind hoD (by rw [hdD]; exact pastItsLine_dict (Nat.le_trans hcD (by rw [List.length_cons,sizeLine_eq]; omega))) ?_)
    wp_walk
    refine hq h' _ ⟨o,(hs.2 x hne.symm).trans hx,hc,hnc,.inr ⟨dx,hdx,hne,hn'⟩⟩ (fun b ob _ hbd hb => (hs.2 b (hbd o dx hx hdx)).trans hb)
      (fun o₀ h₀ => ⟨o₀,(hs.2 x hne.symm).trans h₀,rfl,rfl,fun _ e => e,fun e => by
        obtain rfl : o = o₀ := Option.some.inj (hx.symm.trans h₀)
        rw [hdx] at e; cases e⟩)
theorem exc_store {Q : Unit → Shared → Prop} {ns : List Str}
    (hC : h.get? 316 = some (excClassObj nm q 316 N bs excTail true sn sub false col dd k0 k1 k2 k3 k5 "Exception.__new__"))
    (hs : Looks (model prog w) h (typeLookup (.ref 316) "__setattr__") (some (.builtin "object.__setattr__"))) (hna : Looks (model prog w) h (typeLookup (.ref 316) name) none) (I : h.Inst x 316 mA)
    (hq : ∀ h' tk',h'.Inst x 316 (fun y => if y = name then some v else mA y) →
      (∀ b o,b ≠ x → (∀ o₀ dx,h.get? x = some o₀ → o₀.dict = some dx → b ≠ dx) → h.get? b = some o → h'.get? b = some o) →
      (∀ o₀,h.get? x = some o₀ → ∃ o₁,h'.get? x = some o₁ ∧ o₁.cls = o₀.cls ∧ o₁.data = o₀.data ∧ (∀ dx,o₀.dict = some dx → o₁.dict = some dx) ∧ (o₀.dict = none → ∃ dx,o₁.dict = some dx ∧ h.get? dx = none)) → Q () ⟨h',g,d,tk',os⟩)
    (hw : Within mA ns) (hsz : ns.length ≤ 1000) : wpAny (model prog w) A (setAttr (.ref x) name v) Q E ⟨h,g,d,t,os⟩ := by
  obtain ⟨o,hx,hc,_⟩ := id I
  have ht : Looks (model prog w) h (typeOf (.ref x)) (.ref 316) := by rw [← hc]; exact (Looks.ld hx).andThen .now
  have SF := PySem.F.store_object
  have hm : Looks (model prog w) h (mroOf (.ref 316)) (.ref 316 :: excTail) := fun A Q E s k q => by
    obtain ⟨hh,g,d,t,os⟩ := s
    exact wpAny_mroOf_exc (k _ _ hC) q
  refine wpAny_bind (wpAny_mkText (wpAny_bind (wpAny_bind (wpAny_bind (ht _ _ _ _ (fun _ _ e => e) (hs _ _ _ _ (fun _ _ e => e) (wpAny_holding ?_)))))))
  rw [SF.slot.bind]
  have sub' : Looks (model prog w) h (isInstance (.ref x) (.type "object")) true := ht.andThen fun A Q E s k q => by
    obtain ⟨hh,g,d,t,os⟩ := s
    exact wpAny_isSubtype_exc (k _ _ hC) q
  refine wpAny_bind (wpAny_pure (wpAny_bind (wpAny_call ?_)))
  refine codeAny_call_builtin SF.slot.plain SF.entry (@check_slot (model prog w) _ _ ⟨h,g,d,t + 1,os⟩ "object.__setattr__" "object" "__setattr__" (.ref x) [.str name t,v] [] _ SF.kind SF.split sub' (SF.args (.ref x) (.str name t) v) ?_)
  refine exc_store_entry hC hna I (fun h' tk' a b c => ?_) hw hsz
  exact wpAny_pure (wpAny_pure (hq h' tk' a b c))
end
end Mine
end
section
namespace Mine
structure ExOk (g : GW) : Prop where
  obj : ∃ nm q N bs sn sub col dd k0 k1 k2 k3 k5,g.K.lookup 316 = some (excClassObj nm q 316 N bs excTail true sn sub false col dd k0 k1 k2 k3 k5 "Exception.__new__")
  init : findIn g.K (.ref 316) "__init__" = some (some (.ref 313))
  fn : typeIn g.K (.ref 313) = some (.type "function")
  sa : findIn g.K (.ref 316) "__setattr__" = some (some (.builtin "object.__setattr__"))
  msg : findIn g.K (.ref 316) "message" = some none
  plc : findIn g.K (.ref 316) "place" = some none
  keep : keepIn g.K (.ref 316) = true
noncomputable abbrev excInit (p1 p2 p3 p4 p5 p6 p7 p8 : Pos) : List Stmt :=
  [.Assign [.Attribute (.Name "self" p1) "message" p2] (.Name "message" p3) p4,.Assign [.Attribute (.Name "self" p5) "place" p6] (.Name "place" p7) p8]
noncomputable abbrev excData (t : Addr) : Data := .fields #[.ref t,.none,.none,.none,.bool false,.none]
section
variable {g : GW} {fi : FI}
theorem exc_init {params : Arguments} {p1 p2 p3 p4 p5 p6 p7 p8 : Pos} (XO : ExOk g) (ok : fi.Ok) (hf313 : fi.f = 313) (Fn : FnAt g fi params (excInit p1 p2 p3 p4 p5 p6 p7 p8) 3) (hn : fi.names.take 3 = ([("self" : Str),"message","place"] : List Str))
    {A : Around} {env : Env} {outer : List Env} {base h₀ : Heap} {L : Addr} {m : Str → Option Value} {all : Led0} {s : Shared} {x t : Addr} {v1 v2 : Value} {R : Result → Shared → Prop}
    (hD : Dyn g 1 A env outer base h₀) (hf : env.frame = some L) (hk : env.scope.kind = .function) (F : Fr h₀ L s.heap m) (N : News h₀ L s.heap ((x,excObjOf t) :: all)) (hx : ∀ p ∈ all,p.1 ≠ x)
    (hQ : ∀ h' tk' o',Fr h₀ L h' m → News h₀ L h' ((x,o') :: all) → o'.cls = .ref 316 → o'.data = excData t → R (.ok (.ret .none)) { s with heap := h',toks := tk' }) :
    codeAny (model g.prog g.w) A (.call (.ref 313) ⟨[.ref x,v1,v2],[]⟩) R s := by
  rw [← hf313]
  obtain ⟨A₀,B⟩ := hD.B
  obtain ⟨oc,od,osl,dV,kV,doc,pm,an,ct,name,hat,hbind⟩ := Fn.at_
  refine callX_plain (cl := []) (binds := (fi.names.take 3).zip [.ref x,v1,v2]) B F N hD.T.nolimit hD.fr hf hk ((hD.X.keeps F.keep) _ _ hat) rfl (codeRec_of (hD.X.keeps F.keep) Fn.code) (by have := hD.dep; show A.depth < 1000; omega)
    (BindsTo.of_eq (hbind [.ref x,v1,v2] rfl)) (fun y hy => Fn.loc y.1 (List.of_mem_zip (a := y.1) (b := y.2) hy).1) (fun g₁ L' h₁ FG F' N' B' st lt => ?_) Fn.cell Fn.co Fn.gen ok.kind
  have hL : ∀ y ∈ ([("self" : Str),"message","place"] : List Str),fi.scope.names.lookup y = some .local := fun y hy => Fn.loc y (by rw [hn]; exact hy)
  rw [hn] at F'
  have X1 : g.K.In g₁ := hD.X.keeps st
  have XK : ∀ {h : Heap},(∀ b o,g₁.get? b = some o → h.get? b = some o) → g.K.In h := fun k => X1.keeps k
  obtain ⟨nm,q,Nn,bs,sn,sub,col,dd,k0,k1,k2,k3,k5,hC⟩ := XO.obj
  have hxx := N' _ (.head _)
  have I0 : h₁.Inst x 316 (fun _ => none) := ⟨_,hxx.1,rfl,fun c e => (by cases e),.inl ⟨rfl,fun _ => rfl⟩⟩
  have xL : L' ≠ x := Ne.symm hxx.2.1
  have ev : ∀ {h : Heap} {s' : Shared} {nm : Str} {p : Pos} {v : Value} {mm : Str → Option Value} {Q : Value → Shared → Prop} {E : Value → Shared → Prop} {A' : Around},Fr g₁ L' s'.heap mm → mm nm = some v → Q v s' → fi.scope.names.lookup nm = some .local → (nm == ("__debug__" : Str)) = false → wpAny (model g.prog g.w) A' (eval (.Name nm p) (fi.env L')) Q E s' :=
    fun F hm q hl hd => ld F hm q ok.kind hl hd
  refine wpAny_execs_cons (plainObj_wpAny_Assign_Attribute (ev (h := h₁) F' (v := v1) (by rfl) ?_ (hL _ (by decide)) (by decide)) rfl)
  refine ev (h := h₁) F' (v := .ref x) (by rfl) ?_ (hL _ (by decide)) (by decide)
  refine exc_store (ns := []) (XK F'.keep _ _ hC) (looks_findIn (XK F'.keep) XO.sa) (looks_findIn (XK F'.keep) XO.msg) I0 (fun h2 tk2 I2 hk2 hs2 => ?_) Within.nil (by decide)
  obtain ⟨o2,ho2,hc2,hd2,_,hdx2⟩ := hs2 _ hxx.1
  obtain ⟨dx,hdx,hdxn⟩ := hdx2 rfl
  have keep2 : ∀ b o,b ≠ x → h₁.get? b = some o → h2.get? b = some o := fun b o hb e => hk2 b o hb (fun o₀ dx e1 e2 => by rw [hxx.1] at e1; cases e1; cases e2) e
  have F2 : Fr g₁ L' h2 _ := ⟨F'.ns.at' fun o e => keep2 _ o xL e,fun b o e => keep2 b o (fun z => by rw [z,hxx.2.2] at e; cases e) (F'.keep b o e),F'.above⟩
  refine wpAny_execs_cons (plainObj_wpAny_Assign_Attribute (ev (h := h2) F2 (v := v2) (by rfl) ?_ (hL _ (by decide)) (by decide)) rfl)
  refine ev (h := h2) F2 (v := .ref x) (by rfl) ?_ (hL _ (by decide)) (by decide)
  refine exc_store (ns := ["message"]) (XK F2.keep _ _ hC) (looks_findIn (XK F2.keep) XO.sa) (looks_findIn (XK F2.keep) XO.plc) I2 (fun h3 tk3 I3 hk3 hs3 => ?_) (Within.cons _ _ Within.nil) (by decide)
  obtain ⟨o3,ho3,hc3,hd3,_,_⟩ := hs3 _ ho2
  have keep3 : ∀ b o,b ≠ x → h₁.get? b = some o → h3.get? b = some o := fun b o hb e => hk3 b o hb (fun o₀ dx' e1 e2 z => by
    rw [ho2] at e1; cases e1
    rw [hdx] at e2; cases e2
    rw [z,hdxn] at e; cases e) (keep2 b o hb e)
  have F3 : Fr g₁ L' h3 _ := ⟨F'.ns.at' fun o e => keep3 _ o xL e,fun b o e => keep3 b o (fun z => by rw [z,hxx.2.2] at e; cases e) (F'.keep b o e),F'.above⟩
  have N3 : News g₁ L' h3 ((x,o3) :: all) := fun p hp => by
    rcases List.mem_cons.mp hp with rfl | hp
    · exact ⟨ho3,hxx.2⟩
    · exact ⟨keep3 _ _ (hx p hp) (N' p (.tail _ hp)).1,(N' p (.tail _ hp)).2⟩
  refine wpAny_execs_nil (leaveK_ F3 N3 fun F4 N4 => hQ h3 tk3 o3 F4 N4 ?_ ?_)
  · rw [hc3,hc2]
  · rw [hd3,hd2]
end
end Mine
end
section
namespace Mine
section
variable {M : Model} {A : Around} {E : Value → Shared → Prop} {env : Env}
variable {nm q : Str} {N : Addr} {bs : List Value} {sn : List Str} {sub : List Value} {col : Option Bool} {dd : Option Addr} {k0 k1 k2 k3 k5 : Option Value}
theorem raise316 {s : Shared} {x : Sem Value} {Q : Flow → Shared → Prop} (hh : A.handled = none)
    (h : wpAny M A x (fun v s₁ => ∃ e t ob,v = .ref e ∧ s₁.heap.get? 316 = some (excClassObj nm q 316 N bs excTail true sn sub false col dd k0 k1 k2 k3 k5 "Exception.__new__") ∧
      s₁.heap.get? e = some ob ∧ ob.cls = .ref 316 ∧ ob.data = excData t ∧ E (.ref e) s₁) E s) :
    wpAny M A (raiseStmt env (some x) none) Q E s := by
  have hcB : (Value.ref 316 :: excTail).contains (.type "BaseException") = true := by decide
  unfold raiseStmt
  refine wpAny_bind (wpAny_mono h (fun v s₁ h₁ => ?_) fun _ _ x => x)
  obtain ⟨e,t,ob,rfl,hC,he,hc,hd,hE⟩ := h₁
  obtain ⟨oc,od,oda,osl⟩ := ob
  dsimp only at hc hd
  subst hc hd
  obtain ⟨hp,g,d,tk,os⟩ := s₁
  repeat (first | with_reducible refine wpAny_loadPart_at he ?_ | with_reducible refine wpAny_loadPart_at hC ?_ | (with_reducible refine wpAny_isSubtype_exc hC ?_; rw [hcB]) | wp_step)
  exact wpAny_raiseNew_none hh hE
end
section
variable {g : GW} {fi fx : FI}
theorem exc_call {params : Arguments} {p1 p2 p3 p4 p5 p6 p7 p8 : Pos} (XO : ExOk g) (okx : fx.Ok) (hf313 : fx.f = 313) (Fn : FnAt g fx params (excInit p1 p2 p3 p4 p5 p6 p7 p8) 3) (hn : fx.names.take 3 = ([("self" : Str),"message","place"] : List Str))
    {A : Around} {env : Env} {outer : List Env} {base h₀ : Heap} {L : Addr} {m : Str → Option Value} {all : Led0} {s : Shared} {v1 v2 : Value} {Q : Value → Shared → Prop} {Ec : Value → Shared → Prop}
    (hD : Dyn g 2 A env outer base h₀) (hf : env.frame = some L) (hk : env.scope.kind = .function) (F : Fr h₀ L s.heap m) (N : News h₀ L s.heap all)
    (hQ : ∀ e t ob h' tk',(∀ b o,s.heap.get? b = some o → b < s.heap.objs.size) → s.heap.get? e = none → Fr h₀ L h' m → News h₀ L h' all → h'.get? e = some ob → ob.cls = .ref 316 → ob.data = excData t → h₀.get? e = none → (∀ p ∈ all,p.1 ≠ e) → Q (.ref e) { s with heap := h',toks := tk' }) :
    wpAny (model g.prog g.w) A (call (.ref 316) [v1,v2]) Q Ec s := by
  obtain ⟨hh,gg,d,tk,os⟩ := s
  obtain ⟨nm,q,Nn,bs,sn,sub,col,dd,k0,k1,k2,k3,k5,hC⟩ := XO.obj
  have XK : g.K.In hh := hD.X.keeps F.keep
  refine wpAny_call (exc_make (XK _ _ hC) (by rw [sizeLine_nat]; exact Nat.le_of_ble_eq_true rfl) (looks_findIn XK XO.init) (fun self => bind_fn XK self XO.fn) ?_)
  have F1 : Fr h₀ L ((hh.push (tupObj [v1,v2] 0)).push (excObjOf hh.objs.size)) m := (F.push _).push _
  have N1 : News h₀ L ((hh.push (tupObj [v1,v2] 0)).push (excObjOf hh.objs.size)) ((hh.objs.size + 1,excObjOf hh.objs.size) :: all) := by
    have z := News.push (F.push _) (fun p hp => ⟨Heap.get?_push_of_some (tupObj [v1,v2] 0) (N p hp).1,(N p hp).2⟩) (excObjOf hh.objs.size)
    rwa [Heap.size_push] at z
  have D1 : Dyn g 1 (A.under (.builtin "type.__call__" ⟨.ref 316 :: [v1,v2],[]⟩)) env outer base h₀ := hD.under 316 [v1,v2]
  have lt : ∀ b o,hh.get? b = some o → b < hh.objs.size := fun b o e => Heap.lt_size e
  have off : ∀ p ∈ all,p.1 ≠ hh.objs.size + 1 := fun p hp e => by have z := lt _ _ (N p hp).1; rw [e] at z; exact Nat.lt_irrefl _ (Nat.lt_trans (Nat.lt_succ_self _) z)
  refine exc_init XO okx hf313 Fn hn D1 hf hk F1 N1 off fun h' tk' o' F2 N2 hc hd => ⟨rfl, ?_⟩
  exact hQ _ _ o' h' tk' lt (Heap.get?_none_of_le (Nat.le_succ _)) F2 (fun p hp => N2 p (.tail _ hp)) (N2 _ (.head _)).1 hc hd (N2 _ (.head _)).2.2 off
noncomputable def sRaise (P : PTL) : PTS := fun d X loc μ _ _ => 2 ≤ d ∧ P d X loc μ fun vs _ => vs.length = 2 ∧ X
theorem sv_raise {params : Arguments} {p1 p2 p3 p4 p5 p6 p7 p8 : Pos} (XO : ExOk g) (okx : fx.Ok) (hf313 : fx.f = 313) (Fn : FnAt g fx params (excInit p1 p2 p3 p4 p5 p6 p7 p8) 3) (hnx : fx.names.take 3 = ([("self" : Str),"message","place"] : List Str))
    {x : Str} {np cpos pos : Pos} {e1 e2 : Expr} {P : PTL} (ok : fi.Ok) (hrz : fi.rz = true) (hk : fi.scope.names.lookup x = some .globalImplicit) (hd : (x == ("__debug__" : Str)) = false) (hv : nsIn g.K mainGlobals x = some (some (.ref 316)))
    (has : LV g fi cpos [e1,e2] P) (hpl : ∀ env,(backTo cpos (starEach [e1,e2] env)).any (·.1) = false) (hcons : ∀ env,starEach [e1,e2] env = (false,eval e1 env) :: starEach [e2] env) :
    SV g fi (.Raise (some (.Call (.Name x np) [e1,e2] [] cpos)) none pos) (sRaise P) := by
  intro d X loc μ QN QR h A outer base h₀ L m cs im fz s Qc Ec hD F LRR D tk hN hR hE
  obtain ⟨hd2,h⟩ := h
  obtain ⟨nm,q,Nn,bs,sn,sub,col,dd,k0,k1,k2,k3,k5,hC⟩ := XO.obj
  show wpAny _ _ (exec _ _) _ _ _
  rw [arm_exec_Raise]
  simp only [evalOpt,Option.map]
  refine wpAny_bind (wpAny_standAt (raise316 (nm := nm) (q := q) (N := Nn) (bs := bs) (sn := sn) (sub := sub) (col := col) (dd := dd) (k0 := k0) (k1 := k1) (k2 := k2) (k3 := k3) (k5 := k5) hD.hh ?_))
  refine wpAny_bind (wpAny_mono (Q := fun v s' => ∃ e t ob,v = .ref e ∧ s'.heap.get? 316 = some (excClassObj nm q 316 Nn bs excTail true sn sub false col dd k0 k1 k2 k3 k5 "Exception.__new__") ∧ s'.heap.get? e = some ob ∧ ob.cls = .ref 316 ∧ ob.data = excData t ∧ Ec (.ref e) s') (Call_ (name_K F hD.X (topRead_of hD.T) hv ?_ ok.kind hk hd) rfl) (fun v s₃ h₃ => wpAny_bind (wpAny_standAt (wpAny_pure h₃))) fun _ _ x => x)
  refine callWith_any (hD.X.keeps F.keep) XO.keep (hpl _) (fun e r z => by cases z; exact hcons _) ?_
  refine has d X loc μ _ h A outer base h₀ L m cs im fz s _ Ec hD F LRR D tk (fun r1 b1 μ1 cs1 im1 h1 tk1 F1 L1 D1 t1 sb1 pr1 hr1 hq1 => ⟨hD.X.keeps F1.keep, ?_⟩) hE
  have hl : r1.length = 2 := by rw [← ARs.length hr1]; exact hq1.1
  obtain ⟨v1,v2,rfl⟩ : ∃ v1 v2,r1 = [v1,v2] := by
    match r1,hl with
    | [v1,v2],_ => exact ⟨v1,v2,rfl⟩
  refine exc_call XO okx hf313 Fn hnx (hD.less hd2) rfl ok.kind F1 D1.N fun e t ob h' tk' lt hn2 F2 N2 he hc hdt h0 off => ?_
  refine ⟨e,t,ob,rfl,hD.X.keeps F2.keep _ _ hC,he,hc,hdt, ?_⟩
  have hL : L ≠ e := fun z => by
    obtain ⟨o,_,_,ho,_⟩ := F1.ns
    rw [z,hn2] at ho; cases ho
  have keepH : ∀ b o,b ≠ e → h'.get? b = some o → (hideAll h' [e]).get? b = some o := fun b o hb z => hideAll_get _ z (by simpa using hb)
  have F3 : Fr h₀ L (hideAll h' [e]) m := ⟨F2.ns.at' fun o z => keepH _ o hL z,fun b o z => keepH b o (fun w => by rw [w,h0] at z; cases z) (F2.keep b o z),F2.above⟩
  have N3 : News h₀ L (hideAll h' [e]) (im1 ++ fz) := fun p hp => ⟨keepH _ _ (off p (List.mem_append_right _ hp)) (N2 p (List.mem_append_right _ hp)).1,(N2 p (List.mem_append_right _ hp)).2⟩
  exact hE.2 hrz e h' tk' im1 _ m ob (.ref t) sb1 F3 N3 (hideAll_none _ (by simp)) (fun b o z => of_hideAll _ z) he hc hdt hq1.2
end
end Mine
end
section
namespace Mine
section
variable {prog : Program} {w : World} {A₀ : Around} {E : Value → Shared → Prop} {s' : Shared} {base gr G : Heap} {outer : List Env} {L a e : Addr} {m : Str → Option Value} {name : Str} {scope : Scope} {cd : Value}
  {b₀ : Stmt} {suite : List Stmt} {pos np : Pos} {rest : List ExceptHandler} {Q : Flow → Shared → Prop} {news : Led0} {KF : Frag}
  {p : Program} {loose : List Str} {mean : ExcName → Option Value} {mg mb : Str → Option Value} {x : Str}
theorem caught_316 (R : RaisedSN base G (envOf name scope L a cd :: outer) e (.ref 316) news s'.heap) (F : Fr gr L G m) (K : Below A₀ base outer gr) (hsm : G.UpToSlots s'.heap) (XB : KF.In base) (TB : Top p loose mean mg mb base)
    (ex : nsIn KF mainGlobals x = some (some (.ref 316))) (q : ktsIn KF 316 "BaseException" = true)
    (k : ∀ h' g',KtsTurn (outer.filterMap (·.frame)) gr g' → Fr g' L h' m → News g' L h' news → Below A₀ base outer g' →
      wpAny (model prog w) ((A₀.deeper (envOf name scope L a cd)).mark (some (.ref e))) (execs (b₀ :: suite) (envOf name scope L a cd)) Q E { s' with heap := h' })
    (hk : scope.kind = .function) (hx : (envOf name scope L a cd).kindOf x = some .globalImplicit) (hd : (x == ("__debug__" : Str)) = false)
    (hE : PassesOwnAt (model prog w) ((A₀.deeper (envOf name scope L a cd)).mark (some (.ref e))) (A₀.deeper (envOf name scope L a cd)) (envOf name scope L a cd) E) :
    wpAny (model prog w) (A₀.deeper (envOf name scope L a cd)) (noteFrame (.ref e) (envOf name scope L a cd))
      (fun _ s₂ => wpAny (model prog w) (A₀.deeper (envOf name scope L a cd)) (setFlight (.ref e) none) (fun _ s₃ =>
        wpAny (model prog w) (A₀.deeper (envOf name scope L a cd)) (handleBy (.ref e) (envOf name scope L a cd) (.ExceptHandler (some (.Name x np)) none (b₀ :: suite) pos :: rest)) Q E s₃) E s₂) E s' := by
  obtain ⟨B,a0,hB,hBG,hl,hfl⟩ := R
  have hL : B.get? L = none := by
    obtain ⟨_,⟨L',_,hf,hn',_⟩,_⟩ := hfl.2.2.1
    obtain rfl : L = L' := Option.some.inj hf
    exact hn'
  refine wpAny_looks_onW (Around.frames_deeper K.stack) rfl hfl fun h₄ hheld₄ hsm₄ => ?_
  refine wpAny_landsW hheld₄ fun h₅ hheld hsm₅' => ?_
  have hsm₅ := hsm₄.trans hsm₅'
  obtain ⟨g₅,T₅,F₅,K₅⟩ := kts_ground K F hBG hheld.1 (hsm.trans hsm₅)
  have X₅ : KF.In g₅ := XB.keeps K₅.stays
  have P₅ : TopRead p loose mg mb g₅ := topRead_of (TB.keeps K₅.stays)
  obtain ⟨ob,hob,hobc⟩ := hheld.there
  obtain ⟨nm,q',N,bs,bm,hdct,sn,sub,ab,col,dd,k0,k1,k2,k3,k5,newId,hC,hbase,hbT⟩ := kts_cls X₅ q
  refine wpAny_handleBy_cons (codeAny_handlers_test (name_K F₅ X₅ P₅ ex ?_ hk hx hd)) (by intro q; cases q)
  refine wpAny_excMatches_sub_self (F₅.keep _ _ hC) hob hobc hbase (codeAny_handlers_suite ?_)
  refine lands_againW hheld fun h₆ hfl₆ hsm₆ => ?_
  obtain ⟨g₆,T₆,F₆,K₆⟩ := kts_ground K F hBG hfl₆.1 ((hsm.trans hsm₅).trans hsm₆)
  have Nl : News g₆ L h₆ news := fun q hq => ⟨hfl₆.1 _ _ (hl q hq).1,(fun z => by have := (hl q hq).1; rw [z,hL] at this; cases this),T₆.none_ _ (kts_none F.keep (hl q hq).2.1)⟩
  exact wpAny_passesOwnAt hE (k h₆ g₆ T₆ F₆ Nl K₆)
end
noncomputable def ReadEnd (g : GW) (fs : List Addr) (g₁ : Heap) (L' : Addr) (im fz : Led0) (Qr : PV → Prop) (s : Shared) (fl : Flow) (s' : Shared) : Prop :=
  ∃ v p g' im' h' tk' m',fl = .ret v ∧ s' = { s with heap := h',toks := tk' } ∧ KtsTurn fs g₁ g' ∧ Fr g' L' h' m' ∧ Led g g' L' h' [] [] im' fz ∧ 0 < tk' ∧ Sub im im' ∧ PR g im' p v ∧ Qr p
noncomputable def RB (Qr : PV → Prop) (b : AV) (μ' : List MO) : Prop := ∃ p,frz μ' 0 b = some (.pv p) ∧ Qr p
structure Body (g : GW) (fi : FI) (body : List Stmt) (Qr : PV → Prop) (d : Nat) (args : List AV) : Prop where
  go : ∀ (A₁ : Around) (outer : List Env) (base g₁ : Heap) (L' : Addr) (m : Str → Option Value) (im fz : Led0) (s : Shared),Dyn g d (A₁.deeper (fi.env L')) (fi.env L') outer base g₁ → Below A₁ base outer g₁ → KtsDicts (outer.filterMap (·.frame)) g₁ → Fr g₁ L' s.heap m →
    LR g im [] fi.names (locs0 fi args) m → Led g g₁ L' s.heap [] [] im fz → 0 < s.toks →
    wpAny (model g.prog g.w) (A₁.deeper (fi.env L')) (execs body (fi.env L')) (ReadEnd g (outer.filterMap (·.frame)) g₁ L' im fz Qr s) (fun _ _ => False) s
theorem read_body {g : GW} {fi : FI} {tb rest : List Stmt} {P1 P2 : PTS} {x : Str} {np hp tp kp rp : Pos} {kk : Nat} {d : Nat} {args : List AV} {Qr : PV → Prop} {X : Prop} (ok : fi.Ok) (hrz : fi.rz = false) (h1 : SVs g fi tb P1) (h2 : SVs g fi rest P2)
    (ex : nsIn g.K mainGlobals x = some (some (.ref 316))) (q : ktsIn g.K 316 "BaseException" = true) (hx : fi.scope.names.lookup x = some .globalImplicit) (hd : (x == ("__debug__" : Str)) = false)
    (vc : P1 d X (locs0 fi args) [] (fun loc' μ' => P2 d False loc' μ' (fun _ _ => False) (RB Qr)) (fun _ _ => False)) (vn : X → Qr .none) :
    Body g fi (.Try tb [.ExceptHandler (some (.Name x np)) none [.Return (some (.Constant .none kk kp)) rp] hp] [] [] tp :: rest) Qr d args := by
  refine ⟨fun A₁ outer base g₁ L' m im fz s hD K KD F LRR D tk => ?_⟩
  have cut : ∀ {v : Value} {b : AV} {μ' : List MO} {cs' : List Cell} {im' : Led0} {h' : Heap} {tk' : Nat} {m' : Str → Option Value} {s0 : Shared},Fr g₁ L' h' m' → Led g g₁ L' h' μ' cs' im' fz → 0 < tk' → Sub im im' → AR g im' (caddr cs') b v → RB Qr b μ' → ReadEnd g (outer.filterMap (·.frame)) g₁ L' im fz Qr s (.ret v) { s with heap := h',toks := tk' } :=
    fun {v b μ' cs' im' h' tk' m' s0} F2 D2 t2 sb hr hb => by
      obtain ⟨p,hf,hp⟩ := hb
      have D3 := D2.cut 0 rfl
      have hr3 := frz_rel D2 hr hf
      exact ⟨v,p,g₁,_,h',tk',m',rfl,rfl,.refl,F2,D3,t2,sb.trans (fun _ h => List.mem_append_right _ h),hr3,hp⟩
  refine wpAny_execs_cons (wpAny_Try_except (wpAny_with_toks (Nat.le_refl _) ?_))
  refine h1 d X _ [] _ _ vc _ outer base g₁ L' m [] im fz s _ _ hD F LRR D tk (fun loc' μ' cs' im' h' tk' m' F2 L2 D2 t2 sb pr hq => ?_) (fun _ _ _ _ _ _ _ _ _ _ _ _ _ _ hq => hq.elim) ⟨?_,fun z => by rw [hrz] at z; cases z⟩
  · intro _
    refine wpAny_execs_nil ?_
    refine h2 d False loc' μ' _ _ hq _ outer base g₁ L' m' cs' im' fz _ _ _ hD F2 L2 D2 t2 (fun _ _ _ _ _ _ _ _ _ _ _ _ _ hq => hq.elim) (fun v b μ3 cs3 im3 h3 tk3 m3 F3 D3 t3 sb3 pr3 hr3 q3 => ?_) EXPT.no
    exact cut (s0 := s) F3 D3 t3 (sb.trans sb3) hr3 q3
  · intro e h' tk' im' hh m' sb F2 hs R xx htk
    refine caught_316 R F2 K hs hD.XB hD.TB ex q (fun h6 g6 T6 F6 N6 K6 => ?_) ok.kind (by rw [← hx]; rfl) hd .never
    refine wpAny_execs_cons (wpAny_Return_some (Constant_none ?_))
    refine ⟨.none,.none,g6,im,h6,tk',m',rfl,rfl,T6,F6,⟨fun p hp => N6 p ?_,D.nd,D.dj,D.df,rfl⟩, ?_,Sub.refl,rfl,vn xx⟩
    · rcases List.mem_append.mp hp with hp | hp
      · cases hp
      · rcases List.mem_append.mp hp with hp | hp
        · exact List.mem_append_left _ (sb p hp)
        · exact List.mem_append_right _ hp
    · exact Nat.lt_of_lt_of_le tk htk
end Mine
end
section
namespace Mine
section
variable {g : GW}
theorem Led.fold {h₀ h : Heap} {L : Addr} {μ : List MO} {cs : List Cell} {im fz : Led0} (D : Led g h₀ L h μ cs im fz) : Led g h₀ L h [] [] im (cobjs cs ++ fz) := by
  refine ⟨fun x hx => D.N x ?_,by simp [cobjs_nil],fun p hp => (nomatch hp),fun p hp q hq => ?_,rfl⟩
  · rcases List.mem_append.mp hx with hx | hx
    · cases hx
    · rcases List.mem_append.mp hx with hx | hx
      · exact List.mem_append_right _ (List.mem_append_left _ hx)
      · rcases List.mem_append.mp hx with hx | hx
        · exact List.mem_append_left _ hx
        · exact List.mem_append_right _ (List.mem_append_right _ hx)
  · rcases List.mem_append.mp hq with hq | hq
    · exact fun e => D.dj q hq p (List.mem_append_left _ hp) e.symm
    · exact D.df p hp q hq
theorem Led.unfold {h₀ h h' : Heap} {L : Addr} {μ : List MO} {cs : List Cell} {im im' fz : Led0} (D : Led g h₀ L h μ cs im fz) {g' : Heap} {L' : Addr} (D' : Led g g' L' h' [] [] im' (cobjs cs ++ fz)) (sb : Sub im im')
    (N : News h₀ L h' (cobjs [] ++ (im' ++ (cobjs cs ++ fz)))) : Led g h₀ L h' μ cs im' fz := by
  refine ⟨fun x hx => N x ?_,D.nd,fun p hp q hq => ?_,fun p hp q hq => ?_,D.R.mono sb Pre.refl⟩
  · rcases List.mem_append.mp hx with hx | hx
    · exact List.mem_append_right _ (List.mem_append_right _ (List.mem_append_left _ hx))
    · rcases List.mem_append.mp hx with hx | hx
      · exact List.mem_append_right _ (List.mem_append_left _ hx)
      · exact List.mem_append_right _ (List.mem_append_right _ (List.mem_append_right _ hx))
  · rcases List.mem_append.mp hq with hq | hq
    · exact fun e => D'.df q hq p (List.mem_append_left _ hp) e.symm
    · exact D.dj p hp q (List.mem_append_right _ hq)
  · exact D'.df p hp q (List.mem_append_right _ hq)
theorem locs_LR {fi : FI} {im : Led0} {η : List Addr} {args : List AV} {vs : List Value} (nd : fi.names.Nodup) (ha : ARs g im η args vs) : LR g im η fi.names (locs0 fi args) (fun y => ((fi.names.take args.length).zip vs).reverse.lookup y) := by
  intro i x av hn hl
  unfold locs0 at hl
  have hi : i < args.length := by
    apply Classical.byContradiction
    intro hc
    rw [List.getElem?_append_right (by simpa using hc)] at hl
    rw [List.getElem?_replicate] at hl
    split at hl <;> cases hl
  rw [List.getElem?_append_left (by simpa using hi),List.getElem?_map] at hl
  obtain ⟨y,hy,e⟩ := Option.map_eq_some_iff.mp hl
  cases e
  obtain ⟨v,hv,hr⟩ := ha.get hy
  have := lookup_zip (ks := fi.names.take args.length) (vs := vs) (x := x) (v := v) (i := i) (nd.sublist (List.take_sublist _ _)) (by rw [List.getElem?_take_of_lt hi]; exact hn) hv [] (fun _ h => nomatch h)
  rw [List.append_nil] at this
  exact ⟨v,this,hr⟩
theorem Dyn.enter {d : Nat} {A : Around} {env : Env} {outer : List Env} {base h₀ g₁ : Heap} {L' : Addr} {fi : FI} (hD : Dyn g (d + 1) A env outer base h₀) (B' : Below A base (env :: outer) g₁) (k : ∀ b o,h₀.get? b = some o → g₁.get? b = some o) (nl : fi.f ≠ 739) :
    Dyn g d (A.deeper (fi.env L')) (fi.env L') (env :: outer) base g₁ := by
  refine ⟨hD.hh,Around.frames_deeper hD.fr, ?_, ?_,⟨_,B'⟩,hD.X.keeps k,hD.T.keeps k,fun z => absurd (Option.some.inj z) nl, ?_,hD.XB,hD.TB⟩
  · have := hD.dep; show A.depth + 1 + _ < _; omega
  · have := hD.un; show A.units + 3 + _ < _; omega
  · obtain ⟨ws,hw,hi⟩ := hD.S
    exact ⟨ws,stays_list k hw,hi⟩
noncomputable def CALLS0 (g : GW) (cf : FI) (d : Nat) (f : Addr) (args : List PV) (Qr : PV → Prop) : Prop :=
  ∀ (A : Around) (base h₀ : Heap) (L : Addr) (m : Str → Option Value) (μ : List MO) (cs : List Cell) (im fz : Led0) (s : Shared) (vs : List Value) (Qc Ec : Value → Shared → Prop),
    Dyn g d A (cf.env L) [] base h₀ → Fr h₀ L s.heap m → Led g h₀ L s.heap μ cs im fz → ARs g im (caddr cs) (args.map .pv) vs →
    (∀ v p im' h' tk',Fr h₀ L h' m → Led g h₀ L h' μ cs im' fz → 0 < tk' → Sub im im' → PR g im' p v → Qr p → Qc v { s with heap := h',toks := tk' }) →
    codeAny (model g.prog g.w) A (.call (.ref f) ⟨vs,[]⟩) (RetTo Qc Ec) s
theorem callS0_of {cf fi : FI} {params : Arguments} {body : List Stmt} {d : Nat} {args : List PV} {Qr : PV → Prop} (ck : cf.scope.kind = .function) (hpos : 0 < args.length) (ok : fi.Ok) (Fn : FnAt g fi params body args.length) (Bd : Body g fi body Qr d (args.map .pv)) :
    CALLS0 g cf (d + 1) fi.f args Qr := by
  intro A base h₀ L m μ cs im fz s vs Qc Ec hD F D ha hQ
  obtain ⟨A₀,B⟩ := hD.B
  obtain ⟨oc,od,osl,dV,kV,doc,pm,an,ct,name,hat,hbind⟩ := Fn.at_
  have hlen : args.length = vs.length := by rw [← ARs.length ha,List.length_map]
  have D0 := D.fold
  refine code_defS0 (cn := cf.qual) (cs := cf.scope) (a := cf.f) (ccd := cf.cdv) (binds := (fi.names.take args.length).zip vs) B F hD.X D0.N hD.T hD.fr hat Fn.code (by have := hD.dep; show A.depth < 1000; omega) (BindsTo.of_eq (hbind vs hlen.symm))
    (fun y hy => Fn.loc y.1 (List.of_mem_zip (a := y.1) (b := y.2) hy).1) (fun g₁ L' h₁ FG F' N' B' X' T' KD => ?_) ck Fn.co Fn.gen ok.kind Fn.cell
  have hD' : Dyn g d (A.deeper (fi.env L')) (fi.env L') [cf.env L] base g₁ := hD.enter B' FG.keep Fn.nl
  have hLR := locs_LR (fi := fi) (η := []) ok.nd (pureARs (η' := []) ha)
  rw [List.length_map] at hLR
  have t1 : 0 < s.toks + ((fi.names.take args.length).zip vs).length := by
    rw [List.length_zip,List.length_take,Nat.min_eq_left Fn.le,← hlen,Nat.min_self]; omega
  refine wpAny_mono (Bd.go A [cf.env L] base g₁ L' _ im (cobjs cs ++ fz) { s with heap := h₁,toks := s.toks + ((fi.names.take args.length).zip vs).length } hD' B' KD F' hLR ⟨N',D0.nd,D0.dj,D0.df,D0.R⟩ t1) (fun fl s' hl => ?_) (fun _ _ x => x.elim)
  obtain ⟨v,p,g',im',h',tk',m',rfl,rfl,T2,F2,D2,t2,sb,hp,hq⟩ := hl
  exact leaveS0_ F2 D2.N T2 fun F4 N4 => hQ v p im' h' tk' F4 (D.unfold D2 sb N4) t2 sb hp hq
noncomputable def pCallS0 (g : GW) (cf : FI) (f : Addr) (R : PTL) : PT := fun d X loc μ Q => R d X loc μ fun vs μ1 => ∃ args Qr,allPV vs = some args ∧ CALLS0 g cf d f args Qr ∧ ∀ p,Qr p → Q (.pv p) μ1
theorem allPV_map : ∀ {xs : List AV} {ps : List PV},allPV xs = some ps → xs = ps.map .pv
  | [],_,h => by cases h; rfl
  | .pv p :: r,_,h => by
    obtain ⟨qs,hq,rfl⟩ := Option.map_eq_some_iff.mp h
    rw [List.map_cons,← allPV_map hq]
  | .mut _ :: _,_,h => (nomatch h)
  | .rd _ :: _,_,h => (nomatch h)
theorem ev_callS0 {cf : FI} {x : Str} {np pos : Pos} {args : List Expr} {f : Addr} {R : PTL} (ok : cf.Ok) (hlaw : cf.f = 739) (hk : cf.scope.names.lookup x = some .globalImplicit) (hd : (x == ("__debug__" : Str)) = false) (hv : nsIn g.K mainGlobals x = some (some (.ref f)))
    (hkeep : keepIn g.K (.ref f) = true) (has : LV g cf pos args R) (hpl : ∀ env,(backTo pos (starEach args env)).any (·.1) = false) (hcons : ∀ env e r,args = e :: r → starEach (e :: r) env = (false,eval e env) :: starEach r env) :
    EV g cf (.Call (.Name x np) args [] pos) (pCallS0 g cf f R) := by
  intro d X loc μ Q h A outer base h₀ L m cs im fz s Qc Ec hD F LRR D tk hQ hE
  have ho : outer = [] := hD.O (by rw [← hlaw]; rfl)
  subst ho
  refine Call_ (name_K F hD.X (topRead_of hD.T) hv ?_ ok.kind hk hd) rfl
  refine callWith_any (hD.X.keeps F.keep) hkeep (hpl _) (hcons _) ?_
  refine has d X loc μ _ h A [] base h₀ L m cs im fz s _ Ec hD F LRR D tk (fun r1 b1 μ1 cs1 im1 h1 tk1 F1 L1 D1 t1 sb1 pr1 hr1 hq1 => ⟨hD.X.keeps F1.keep, ?_⟩) hE
  obtain ⟨ps,Qr,hps,hC,hqr⟩ := hq1
  have e := allPV_map hps
  subst e
  refine wpAny_call (hC A base h₀ L m μ1 cs1 im1 fz _ r1 Qc Ec hD F1 D1 hr1 fun v p im' h' tk' F' D' t' sb hp q => ?_)
  exact hQ v (.pv p) μ1 cs1 im' h' tk' F' (L1.mono sb Pre.refl) D' t' (sb1.trans sb) pr1 hp (hqr p q)
theorem refused_body {fi fr : FI} {params : Arguments} {body : List Stmt} {x y : Str} {np yp cp rp pp kp : Pos} {kk : Nat} {d : Nat} {arg : PV} {Qr : PV → Prop} (ok : fi.Ok) (okr : fr.Ok) (Fn : FnAt g fr params body 1) (Bd : Body g fr body Qr d [.pv arg])
    (h0 : fi.names[0]? = some y) (hk : fi.scope.names.lookup x = some .globalImplicit) (hd : (x == ("__debug__" : Str)) = false) (hv : nsIn g.K mainGlobals x = some (some (.ref fr.f))) (hkeep : keepIn g.K (.ref fr.f) = true)
    (hky : fi.scope.names.lookup y = some .local) (hdy : (y == ("__debug__" : Str)) = false) (hn : ∀ p,Qr p → ∃ b,isNoneP p = some b) :
    Body g fi [.Return (some (.Compare (.Call (.Name x np) [.Name y yp] [] cp) [.Is] [.Constant .none kk kp] pp)) rp] (fun r => ∃ p b,Qr p ∧ isNoneP p = some b ∧ r = .bool b) (d + 1) [.pv arg] := by
  refine ⟨fun A₁ outer base g₁ L' m im fz s hD K KD F LRR D tk => ?_⟩
  obtain ⟨oc,od,osl,dV,kV,doc,pm,an,ct,name,hat,hbind⟩ := Fn.at_
  obtain ⟨va,hva,hra⟩ := LRR 0 y (.pv arg) h0 rfl
  refine wpAny_execs_cons (wpAny_Return_some (wpAny_Compare1 ?_ rfl))
  refine Call_ (name_K F hD.X (topRead_of hD.T) hv ?_ ok.kind hk hd) rfl
  refine callWith_any (hD.X.keeps F.keep) hkeep rfl (fun e r z => by cases z; rfl) ?_
  refine args_cons (ld F hva (args_nil ⟨hD.X.keeps F.keep, ?_⟩) ok.kind hky hdy) rfl
  refine wpAny_call (code_defS (cn := fi.qual) (cs := fi.scope) (a := fi.f) (ccd := fi.cdv) (binds := (fr.names.take 1).zip [va]) K F hD.X D.N hD.T hD.XB hD.TB KD (.refl) (Around.frames_deeper K.stack) hat Fn.code (by have := hD.dep; show A₁.depth + 1 < 1000; have e : (A₁.deeper (fi.env L')).depth = A₁.depth + 1 := rfl; omega)
    (BindsTo.of_eq (hbind [va] rfl)) (fun y hy => Fn.loc y.1 (List.of_mem_zip (a := y.1) (b := y.2) hy).1) (fun g₂ L2 h₁ FG F' N' B' X' T' KD' => ?_) ok.kind Fn.co Fn.gen okr.kind Fn.cell)
  have hD' : Dyn g d ((A₁.deeper (fi.env L')).deeper (fr.env L2)) (fr.env L2) (fi.env L' :: outer) base g₂ := hD.enter B' FG.keep Fn.nl
  have ha : ARs g im [] [.pv arg] [va] := ⟨va,[],rfl,hra,rfl⟩
  have hLR := locs_LR (fi := fr) (η := []) okr.nd ha
  have t1 : 0 < s.toks + ((fr.names.take 1).zip [va]).length := Nat.lt_of_lt_of_le tk (Nat.le_add_right _ _)
  refine wpAny_mono (Bd.go (A₁.deeper (fi.env L')) (fi.env L' :: outer) base g₂ L2 _ im fz { s with heap := h₁,toks := s.toks + ((fr.names.take 1).zip [va]).length } hD' B' KD' F' hLR ⟨N',D.nd,D.dj,D.df,D.R⟩ t1) (fun fl s' hl => ?_) (fun _ _ x => x.elim)
  obtain ⟨v,p,g',im',h',tk',m',rfl,rfl,T2,F2,D2,t2,sb,hp,hq⟩ := hl
  refine leaveS_r F2 D2.N T2 fun g3 T3 F3 N3 K3 X3 T3' KD3 => ?_
  obtain ⟨b,hb⟩ := hn p hq
  refine Constant_none (isNone_ok hb hp ?_)
  exact ⟨.bool b,.bool b,g3,im',h',tk',m,rfl,rfl,T3,F3,⟨N3,D2.nd,D2.dj,D2.df,D2.R⟩,t2,sb,rfl,p,b,hq,hb,rfl⟩
end
end Mine
end
section
open PySem PySem.W PySem.Spec PySem.Calls PyProof.Rows PyProof.Rows.LCg PyProof.Rows.LCt
namespace Mine
section
variable {g : GW}
noncomputable def pCompNone (g : GW) (cf : FI) (f : Addr) (j : Nat) : PT := fun d X loc μ Q => match loc[j]? with
  | some (some (.pv (.lst ps))) => ps.length ≤ textLine ∧ (∀ p ∈ ps,CALLS0 g cf d f [p] (fun r => r = .bool true)) ∧ Q (.pv (.lst [])) μ
  | _ => False
theorem off3_of {I C D : Addr} : ∀ {l : Led0},(∀ p ∈ l,p.1 ≠ I ∧ p.1 ≠ C ∧ p.1 ≠ D) → Off3 I C D l
  | [],_ => trivial
  | p :: r,h => ⟨h p (.head _),off3_of fun q hq => h q (.tail _ hq)⟩
theorem ev_compNone {cf : FI} {x wr fn : Str} {ep px wp np ap cp up pos : Pos} {scope : Scope} {f : Addr} (j : Nat) (ok : cf.Ok) (hlaw : cf.f = 739) (hj : cf.names[j]? = some wr) (hkw : cf.scope.names.lookup wr = some .local) (hdw : (wr == ("__debug__" : Str)) = false)
    (hclos : ∀ L,closureFor scope (cf.env L) = pure []) (hcell : ∀ y ∈ scope.names,y.2 ≠ .cell) (hkind : scope.kind = .function) (hnames : ∀ y ∈ scope.names,y.2 = .local → scope.names.lookup y.1 = some .local) (hx : scope.names.lookup x = some .local)
    (hck : ∀ C L,(compEnvC scope [] C (cf.env L)).scope.kind = .function) (hcx : ∀ C L,(compEnvC scope [] C (cf.env L)).kindOf x = some .local) (hcf : ∀ C L,(compEnvC scope [] C (cf.env L)).kindOf fn = some .globalImplicit) (hdx : (x == ("__debug__" : Str)) = false) (hdf : (fn == ("__debug__" : Str)) = false)
    (hv : nsIn g.K mainGlobals fn = some (some (.ref f))) (hkeep : keepIn g.K (.ref f) = true)
    (hs : ∀ L y,foldedSetIterable (.Name wr wp) (cf.env L) y = pure y) :
    EV g cf (.ListComp (.Name x ep) [⟨.Name x px,.Name wr wp,[.UnaryOp .Not (.Call (.Name fn np) [.Name x ap] [] cp) up],0⟩] scope pos) (pCompNone g cf f j) := by
  intro d X loc μ Q h A outer base h₀ L m cs im fz s Qc Ec hD F LRR D tk hQ hE
  have ho : outer = [] := hD.O (by rw [← hlaw]; rfl)
  subst ho
  unfold pCompNone at h
  split at h
  · rename_i ps hps
    obtain ⟨hlen,hC,hq⟩ := h
    obtain ⟨v,hu,hr⟩ := LRR j wr _ hj hps
    obtain ⟨ax,vs,n,rfl,hm,hrs⟩ := hr
    refine wpAny_with_toks (Nat.le_refl _) (ListComp_T F (hclos L) hcell hkind hnames hx (ld F hu ?_ ok.kind hkw hdw) (hs L))
    have hsz : vs.toArray.size ≤ sizeLine := by rw [List.size_toArray,← hrs.length,sizeLine_nat]; unfold textLine at hlen; omega
    refine CompSrcT.ledger hD.hh F D.N (D.im_in hm) hsz fun gh => ?_
    have turns : ∀ k i (im1 : Led0),i + k = vs.length → Sub im im1 → (∀ h,News h₀ L h (cobjs cs ++ (im1 ++ fz)) → Led g h₀ L h μ cs im1 fz) →
        CompRestT g.prog g.w A h₀ L m (cf.env L) (.UnaryOp .Not (.Call (.Name fn np) [.Name x ap] [] cp) up) (.Name x ep) x scope [] { s with heap := gh } (SrcAt h₀ ax vs.toArray) (fun i v => vs.toArray[i]? = some v)
          (FinE h₀ L m { s with heap := gh } fun a s' => s.toks ≤ s'.toks → Qc a s') k i [] (cobjs cs ++ (im1 ++ fz)) := by
      intro k
      induction k with
      | zero =>
        intro i im1 hi sb hL
        refine CompRestT.zero fun D' h' tk' F' N' o1 htk => ?_
        have hD1 : Led g h₀ L h' μ cs im1 fz := hL h' fun p hp => N' p (.tail _ hp)
        have off1 : ∀ p ∈ cobjs cs ++ (im1 ++ fz),p.1 ≠ D' := by
          intro p hp
          clear N' hD1 hL
          generalize cobjs cs ++ (im1 ++ fz) = l at hp o1
          induction l with
          | nil => cases hp
          | cons q r ih =>
            rcases List.mem_cons.mp hp with rfl | hp
            · exact o1.1
            · exact ih hp o1.2
        have hD2 : Led g h₀ L h' μ cs ((D',lst []) :: im1) fz := hD1.more N' off1
        exact hQ (.ref D') (.pv (.lst [])) μ cs _ h' tk' F' (LRR.mono (sb.trans fun _ z => .tail _ z) Pre.refl) hD2 (Nat.lt_of_lt_of_le tk htk) (sb.trans fun _ z => .tail _ z) Pre.refl ⟨D',[],0,rfl,.head _,rfl⟩ hq
      | succ k ih =>
        intro i im1 hi sb hL
        refine CompRestT.succ fun v I oI C oC D' m₂ h' tk' E' hP hoC hm₂ F' N' off ne => ?_
        have offm := off.mem
        have hD1 : Led g h₀ L h' μ cs im1 fz := hL h' fun p hp => N' p (.tail _ (.tail _ (.tail _ hp)))
        have hDz : Led g h₀ L h' μ cs im1 ((I,oI) :: (C,oC) :: (D',lst []) :: fz) := by
          refine ⟨fun p hp => N' p ?_,hD1.nd,fun p hp q hq => ?_,fun p hp q hq => ?_,hD1.R⟩
          · rcases List.mem_append.mp hp with hp | hp
            · exact .tail _ (.tail _ (.tail _ (List.mem_append_left _ hp)))
            · rcases List.mem_append.mp hp with hp | hp
              · exact .tail _ (.tail _ (.tail _ (List.mem_append_right _ (List.mem_append_left _ hp))))
              · rcases List.mem_cons.mp hp with rfl | hp
                · exact .head _
                · rcases List.mem_cons.mp hp with rfl | hp
                  · exact .tail _ (.head _)
                  · rcases List.mem_cons.mp hp with rfl | hp
                    · exact .tail _ (.tail _ (.head _))
                    · exact .tail _ (.tail _ (.tail _ (List.mem_append_right _ (List.mem_append_right _ hp))))
          · have o := offm p (List.mem_append_left _ hp)
            rcases List.mem_append.mp hq with hq | hq
            · exact hD1.dj p hp q (List.mem_append_left _ hq)
            · rcases List.mem_cons.mp hq with rfl | hq
              · exact o.1
              · rcases List.mem_cons.mp hq with rfl | hq
                · exact o.2.1
                · rcases List.mem_cons.mp hq with rfl | hq
                  · exact o.2.2
                  · exact hD1.dj p hp q (List.mem_append_right _ hq)
          · have o := offm p (List.mem_append_right _ (List.mem_append_left _ hp))
            rcases List.mem_cons.mp hq with rfl | hq
            · exact o.1
            · rcases List.mem_cons.mp hq with rfl | hq
              · exact o.2.1
              · rcases List.mem_cons.mp hq with rfl | hq
                · exact o.2.2
                · exact hD1.df p hp q hq
        have hi' : i < vs.length := by omega
        have hvi : vs[i]? = some v := by simpa using hP
        obtain ⟨p,hp⟩ : ∃ p,ps[i]? = some p := ⟨_,List.getElem?_eq_getElem (by rw [hrs.length]; exact hi')⟩
        obtain ⟨v',hv',hpr⟩ := hrs.get hp
        rw [hvi] at hv'
        cases hv'
        refine isTrue_not (isTrue_plain (Call_ (Name_function_global (hck C L) (hcf C L) (loadGlobal_global (env := compEnvC scope [] C (cf.env L)) (show h'.Ns mainGlobals g.mg from (hD.T.keeps F'.keep).g) (mg_of hD.X hD.T.g hv) ?_) hdf) rfl))
        refine callWith_any (hD.X.keeps F'.keep) hkeep rfl (fun e r z => by cases z; rfl) ?_
        refine args_cons (ldVarK (hoC.ns (N' _ (.tail _ (.head _))).1) hm₂ (args_nil ⟨hD.X.keeps F'.keep, ?_⟩) (hck C L) (hcx C L) hdx) rfl
        have ha : ARs g im1 (caddr cs) ([p].map .pv) [v] := ⟨v,[],rfl,hpr.mono sb,rfl⟩
        refine wpAny_call (hC p (List.mem_of_getElem? hp) A base h₀ L m μ cs im1 ((I,oI) :: (C,oC) :: (D',lst []) :: fz) { s with heap := h',toks := tk' } [v] _ _ hD F' hDz ha fun v2 p2 im2 h2 tk2 F2 D2 t2 sb2 hp2 hq2 => ?_)
        subst hq2
        cases (show v2 = .bool true from hp2)
        refine wpAny_truthy_bool ?_
        simp only [Bool.not_true,Bool.false_eq_true,if_false]
        have N2 : News h₀ L h2 ((I,oI) :: (C,oC) :: (D',lst []) :: (cobjs cs ++ (im2 ++ fz))) := fun q hq => D2.N q (by
          rcases List.mem_cons.mp hq with rfl | hq
          · exact List.mem_append_right _ (List.mem_append_right _ (.head _))
          · rcases List.mem_cons.mp hq with rfl | hq
            · exact List.mem_append_right _ (List.mem_append_right _ (.tail _ (.head _)))
            · rcases List.mem_cons.mp hq with rfl | hq
              · exact List.mem_append_right _ (List.mem_append_right _ (.tail _ (.tail _ (.head _))))
              · rcases List.mem_append.mp hq with hq | hq
                · exact List.mem_append_left _ hq
                · rcases List.mem_append.mp hq with hq | hq
                  · exact List.mem_append_right _ (List.mem_append_left _ hq)
                  · exact List.mem_append_right _ (List.mem_append_right _ (.tail _ (.tail _ (.tail _ hq)))))
        refine ⟨h2,tk2,cobjs cs ++ (im2 ++ fz),rfl,F2,N2,off3_of fun q hq => ?_,.inr ⟨_,List.mem_append_right _ (List.mem_append_left _ (sb2 _ (sb _ hm))),rfl,n,rfl⟩, ?_⟩
        · rcases List.mem_append.mp hq with hq | hq
          · exact offm q (List.mem_append_left _ hq)
          · rcases List.mem_append.mp hq with hq | hq
            · exact ⟨D2.df q hq (I,oI) (.head _),D2.df q hq (C,oC) (.tail _ (.head _)),D2.df q hq (D',lst []) (.tail _ (.tail _ (.head _)))⟩
            · exact offm q (List.mem_append_right _ (List.mem_append_right _ hq))
        · refine ih (i + 1) im2 (by omega) (sb.trans sb2) fun h N => ⟨N,D2.nd,fun p hp q hq => ?_,fun p hp q hq => D2.df p hp q (.tail _ (.tail _ (.tail _ hq))),D2.R⟩
          rcases List.mem_append.mp hq with hq | hq
          · exact D2.dj p hp q (List.mem_append_left _ hq)
          · exact D2.dj p hp q (List.mem_append_right _ (.tail _ (.tail _ (.tail _ hq))))
    have := turns vs.length 0 im (by omega) Sub.refl fun h N => D.of_news N
    rwa [List.size_toArray]
  · exact h.elim
end
end Mine
end
section
namespace Mine
noncomputable def topS (i : Nat) : Stmt := PySem.Challenge.pw_pb0457_01.main.body.getD i (.Pass ⟨0,0,0,0⟩)
noncomputable def clsS (i j : Nat) : Stmt := match topS i with
  | .ClassDef _ _ _ body .. => body.getD j (.Pass ⟨0,0,0,0⟩)
  | s => s
noncomputable def bodyOf : Stmt → List Stmt
  | .FunctionDef _ _ body .. => body
  | _ => []
noncomputable def argsOf : Stmt → Arguments
  | .FunctionDef _ args .. => args
  | _ => ⟨[],[],none,[],[],none,[]⟩
noncomputable def scopeOf : Stmt → Scope
  | .FunctionDef _ _ _ _ _ _ scope .. => scope
  | _ => { kind := .module,names := [],isGenerator := false,isCoroutine := false,more := [] }
noncomputable def fiOf (s : Stmt) (qual : Str) (f : Addr) (rz : Bool) : FI := ⟨qual,scopeOf s,f,.ref (f - 1),rz⟩
section
variable {g : GW} {fi : FI}
theorem eI {i : Int} {k : Nat} {pos : Pos} : EV g fi (.Constant (.int i) k pos) fun _ _ _ μ Q => Q (.pv (.int i)) μ := ev_int
theorem eS {x : Str} {k : Nat} {pos : Pos} : EV g fi (.Constant (.str x) k pos) fun _ _ _ μ Q => Q (.pv (.str x)) μ := ev_str
theorem eL {x : Str} {pos : Pos} (ok : fi.Ok) (i : Nat) (hn : fi.names[i]? = some x) (hk : fi.scope.names.lookup x = some .local) (hd : (x == ("__debug__" : Str)) = false) : EV g fi (.Name x pos) (pLoc i) := ev_loc i ok hn hk hd
theorem eT {x : Str} {pos : Pos} {v : Value} {p : PV} (ok : fi.Ok) (hv : nsIn g.K mainGlobals x = some (some v)) (hp : topVal v = some p) (hk : fi.scope.names.lookup x = some .globalImplicit) (hd : (x == ("__debug__" : Str)) = false) :
    EV g fi (.Name x pos) fun _ _ _ μ Q => Q (.pv p) μ := ev_top ok hk hd hv hp
theorem eC {x : Str} {np pos : Pos} {args : List Expr} {f : Addr} {R : PTL} (ok : fi.Ok) (hv : nsIn g.K mainGlobals x = some (some (.ref f))) (hkeep : keepIn g.K (.ref f) = true) (has : LV g fi pos args R)
    (hk : fi.scope.names.lookup x = some .globalImplicit) (hd : (x == ("__debug__" : Str)) = false) (hpl : ∀ env,(backTo pos (starEach args env)).any (·.1) = false) (hcons : ∀ env e r,args = e :: r → starEach (e :: r) env = (false,eval e env) :: starEach r env) :
    EV g fi (.Call (.Name x np) args [] pos) (pCallF (g := g) f R) := ev_callF ok hk hd hv hkeep has hpl hcons
theorem eB {x : Str} {np pos : Pos} {e : Expr} {r : List Expr} {R : PTL} (b : BI) (IO : IOk g) (ok : fi.Ok) (hv : nsIn g.K mainGlobals x = some none) (hb : bootBuiltins x = some b.val) (has : LV g fi pos (e :: r) R)
    (hk : fi.scope.names.lookup x = some .globalImplicit) (hd : (x == ("__debug__" : Str)) = false) (hn : x ≠ "__name__") (hpl : ∀ env,(backTo pos (starEach r env)).any (·.1) = false) (hcons : ∀ env,starEach (e :: r) env = (false,eval e env) :: starEach r env) :
    EV g fi (.Call (.Name x np) (e :: r) [] pos) (pCallB g.ns b R) := ev_callB IO ok hk hd hv hb hn has hpl hcons
theorem eT' {x : Str} {pos : Pos} (b : BI) (ok : fi.Ok) (hv : nsIn g.K mainGlobals x = some none) (hb : bootBuiltins x = some b.val) (hk : fi.scope.names.lookup x = some .globalImplicit) (hd : (x == ("__debug__" : Str)) = false) (hn : x ≠ "__name__") :
    EV g fi (.Name x pos) fun _ _ _ μ Q => Q (.pv (.blt b)) μ := ev_blt ok hk hd hv hb hn
theorem eA {e : Expr} {attr : Str} {pos : Pos} {P : PT} (KO : KOk g) (c : Nat) (he : EV g fi e P) (hc : c < 12) (hn : attr = nm c)
    (hs : ∀ env,eval (.Attribute e attr pos) env = (do let o ← eval e env; standAt pos.atName; let r ← holding [o] (getAttr o attr true); letTemporaryGo e o r; pure r)) : EV g fi (.Attribute e attr pos) (pAttr c P) := ev_attr c KO he hc hn hs
noncomputable def pMethA (g : GW) (k : Nat) (P : PT) (R : PTL) : PT := fun d X loc μ Q => P d X loc μ fun a μ1 => ∃ C f,clsV μ1 a = some C ∧ MethOk g C k f ∧ R d X loc μ1 fun vs μ2 => CALL g d f (a :: vs) μ2 Q X
theorem eM {o : Expr} {name : Str} {apos pos : Pos} {args : List Expr} {P : PT} {R : PTL} (k : Nat) (ok : fi.Ok) (ho : EV g fi o P) (has : LV g fi pos args R) (pl : Env → Sem Bool) (hn : name = mm k)
    (hs : ∀ env,eval (.Call (.Attribute o name apos) args [] pos) env = (do let ov ← eval o env; standAt apos.atName; let (f,first) ← holding [ov] (getMethod ov name (pl env)); callWith pos f first (backTo pos (starEach args env)) []))
    (hpl : ∀ env,(backTo pos (starEach args env)).any (·.1) = false) (hcons : ∀ env e r,args = e :: r → starEach (e :: r) env = (false,eval e env) :: starEach r env) :
    EV g fi (.Call (.Attribute o name apos) args [] pos) (pMethA g k P R) := by
  intro d X loc μ Q h A outer base h₀ L m cs im fz s Qc Ec hD F LRR D tk hQ hE
  refine MethodCall_ (pl := pl (fi.env L)) (ho d X loc μ _ h A outer base h₀ L m cs im fz s _ Ec hD F LRR D tk (fun r1 b1 μ1 cs1 im1 h1 tk1 F1 L1 D1 t1 sb1 pr1 hr1 hq1 => ?_) hE) (hs _)
  obtain ⟨C,f,hcl,M,hq1⟩ := hq1
  rw [hn]
  refine meth_ok M hcl hr1 hD.X F1 D1 ?_
  refine callWith_any (hD.X.keeps F1.keep) M.keep (hpl _) (hcons _) ?_
  refine has d X loc μ1 _ hq1 A outer base h₀ L m cs1 im1 fz _ _ Ec hD F1 L1 D1 t1 (fun r2 b2 μ2 cs2 im2 h2 tk2 F2 L2 D2 t2 sb2 pr2 hr2 hq2 => ⟨hD.X.keeps F2.keep, ?_⟩) (hE.mono sb1)
  refine wpAny_call (hq2 A (fi.env L) outer base h₀ L m cs2 im2 fz _ _ Qc Ec hD rfl ok.kind F2 D2 t2 ⟨r1,r2,rfl,AR.mono sb2 pr2 hr1,hr2⟩ (fun v b μ' cs' im' h' tk' F' D' t' sb pr hr q => ?_) (hE.mono (sb1.trans sb2)).1)
  exact hQ v b μ' cs' im' h' tk' F' (L2.mono sb pr) D' t' ((sb1.trans sb2).trans sb) ((pr1.trans pr2).trans pr) hr q
noncomputable def pSubScr (ns : List Int) (P R : PT) : PT := fun d X loc μ Q => P d X loc μ fun a μ1 => R d X loc μ1 fun b μ2 => match a,b with
  | .pv .scr,.pv (.int i) => 0 ≤ i ∧ i < 2 ^ 62 ∧ ∃ n,ns[i.toNat]? = some n ∧ Q (.pv (.int n)) μ2
  | _,_ => False
theorem ints_get {vs : List Value} {ns : List Int} (h : IntsAre vs ns) : ∀ {i : Nat} {n : Int},ns[i]? = some n → ∃ t,vs[i]? = some (.int n t) := by
  induction h with
  | nil => intro i n h; cases h
  | cons a t _ ih =>
    intro i n h
    cases i with
    | zero => cases h; exact ⟨_,rfl⟩
    | succ i => exact ih (by simpa using h)
theorem ev_subScr {v i : Expr} {pos : Pos} {P R : PT} (hv : EV g fi v P) (hi : EV g fi i R) (hs : ∀ a b,subscripted i false a b = operate [a,b] (getItem a b)) : EV g fi (.Subscript v i pos) (pSubScr g.ns P R) := by
  intro d X loc μ Q h A outer base h₀ L m cs im fz s Qc Ec hD F LRR D tk hQ hE
  refine Subscript_ (hv d X loc μ _ h A outer base h₀ L m cs im fz s _ Ec hD F LRR D tk (fun r1 b1 μ1 cs1 im1 h1 tk1 F1 L1 D1 t1 sb1 pr1 hr1 hq1 => ?_) hE)
  refine hi d X loc μ1 _ hq1 A outer base h₀ L m cs1 im1 fz _ _ Ec hD F1 L1 D1 t1 (fun r2 b2 μ2 cs2 im2 h2 tk2 F2 L2 D2 t2 sb2 pr2 hr2 hq2 => ?_) (hE.mono sb1)
  have hr1' := AR.mono sb2 pr2 hr1
  split at hq2
  · obtain ⟨h0,h1',n,hn,hq⟩ := hq2
    cases (show r1 = .ref g.sa from hr1')
    obtain ⟨u,rfl⟩ := hr2
    obtain ⟨ws,hw,hi'⟩ := hD.S
    obtain ⟨t,ht⟩ := ints_get hi' hn
    have hL := stays_list F2.keep hw
    exact tail_any hL.typeIs slot_list_getitem.lookup (wpAny_getItem_list hL h0 (by omega) (by simpa using ht) (hQ (.int n t) (.pv (.int n)) μ2 cs2 im2 h2 tk2 F2 L2 D2 t2 (sb1.trans sb2) (pr1.trans pr2) ⟨t,rfl⟩ hq)) (hs _ _)
  · exact hq2.elim
end
end Mine
end
section
namespace Mine
noncomputable def fi_Begin_init:FI:=fiOf (clsS 3 0) "Begin.__init__" 56 false
theorem ok_Begin_init : fi_Begin_init.Ok := ⟨rfl,by decide⟩
theorem n_Begin_init : fi_Begin_init.names.length = 2 := rfl
noncomputable def fi_Begin_row:FI:=fiOf (clsS 3 1) "Begin.row" 63 false
theorem ok_Begin_row : fi_Begin_row.Ok := ⟨rfl,by decide⟩
theorem n_Begin_row : fi_Begin_row.names.length = 1 := rfl
noncomputable def fi_Commit_row:FI:=fiOf (clsS 4 0) "Commit.row" 82 false
theorem ok_Commit_row : fi_Commit_row.Ok := ⟨rfl,by decide⟩
theorem n_Commit_row : fi_Commit_row.names.length = 1 := rfl
noncomputable def fi_Rollback_init:FI:=fiOf (clsS 5 0) "Rollback.__init__" 101 false
theorem ok_Rollback_init : fi_Rollback_init.Ok := ⟨rfl,by decide⟩
theorem n_Rollback_init : fi_Rollback_init.names.length = 2 := rfl
noncomputable def fi_Rollback_row:FI:=fiOf (clsS 5 1) "Rollback.row" 108 false
theorem ok_Rollback_row : fi_Rollback_row.Ok := ⟨rfl,by decide⟩
theorem n_Rollback_row : fi_Rollback_row.names.length = 1 := rfl
noncomputable def fi_Savepoint_init:FI:=fiOf (clsS 6 0) "Savepoint.__init__" 127 false
theorem ok_Savepoint_init : fi_Savepoint_init.Ok := ⟨rfl,by decide⟩
theorem n_Savepoint_init : fi_Savepoint_init.names.length = 2 := rfl
noncomputable def fi_Savepoint_row:FI:=fiOf (clsS 6 1) "Savepoint.row" 134 false
theorem ok_Savepoint_row : fi_Savepoint_row.Ok := ⟨rfl,by decide⟩
theorem n_Savepoint_row : fi_Savepoint_row.names.length = 1 := rfl
noncomputable def fi_Release_init:FI:=fiOf (clsS 7 0) "Release.__init__" 153 false
theorem ok_Release_init : fi_Release_init.Ok := ⟨rfl,by decide⟩
theorem n_Release_init : fi_Release_init.names.length = 2 := rfl
noncomputable def fi_Release_row:FI:=fiOf (clsS 7 1) "Release.row" 160 false
theorem ok_Release_row : fi_Release_row.Ok := ⟨rfl,by decide⟩
theorem n_Release_row : fi_Release_row.names.length = 1 := rfl
noncomputable def fi_Pragma_init:FI:=fiOf (clsS 8 0) "Pragma.__init__" 179 false
theorem ok_Pragma_init : fi_Pragma_init.Ok := ⟨rfl,by decide⟩
theorem n_Pragma_init : fi_Pragma_init.names.length = 3 := rfl
noncomputable def fi_Pragma_row:FI:=fiOf (clsS 8 1) "Pragma.row" 186 false
theorem ok_Pragma_row : fi_Pragma_row.Ok := ⟨rfl,by decide⟩
theorem n_Pragma_row : fi_Pragma_row.names.length = 1 := rfl
noncomputable def fi_Vacuum_row:FI:=fiOf (clsS 9 0) "Vacuum.row" 205 false
theorem ok_Vacuum_row : fi_Vacuum_row.Ok := ⟨rfl,by decide⟩
theorem n_Vacuum_row : fi_Vacuum_row.names.length = 1 := rfl
noncomputable def fi_TransactionReader_init:FI:=fiOf (clsS 12 0) "TransactionReader.__init__" 225 false
theorem ok_TransactionReader_init : fi_TransactionReader_init.Ok := ⟨rfl,by decide⟩
theorem n_TransactionReader_init : fi_TransactionReader_init.names.length = 2 := rfl
noncomputable def fi_TransactionReader_transaction:FI:=fiOf (clsS 12 1) "TransactionReader.transaction" 232 false
theorem ok_TransactionReader_transaction : fi_TransactionReader_transaction.Ok := ⟨rfl,by decide⟩
theorem n_TransactionReader_transaction : fi_TransactionReader_transaction.names.length = 5 := rfl
noncomputable def fi_TransactionReader_begin:FI:=fiOf (clsS 12 2) "TransactionReader.begin" 239 false
theorem ok_TransactionReader_begin : fi_TransactionReader_begin.Ok := ⟨rfl,by decide⟩
theorem n_TransactionReader_begin : fi_TransactionReader_begin.names.length = 4 := rfl
noncomputable def fi_TransactionReader_rollback:FI:=fiOf (clsS 12 3) "TransactionReader.rollback" 246 false
theorem ok_TransactionReader_rollback : fi_TransactionReader_rollback.Ok := ⟨rfl,by decide⟩
theorem n_TransactionReader_rollback : fi_TransactionReader_rollback.names.length = 2 := rfl
noncomputable def fi_TransactionReader_pragma:FI:=fiOf (clsS 12 4) "TransactionReader.pragma" 253 false
theorem ok_TransactionReader_pragma : fi_TransactionReader_pragma.Ok := ⟨rfl,by decide⟩
theorem n_TransactionReader_pragma : fi_TransactionReader_pragma.names.length = 4 := rfl
noncomputable def fi_TransactionReader_setting:FI:=fiOf (clsS 12 5) "TransactionReader.setting" 260 false
theorem ok_TransactionReader_setting : fi_TransactionReader_setting.Ok := ⟨rfl,by decide⟩
theorem n_TransactionReader_setting : fi_TransactionReader_setting.names.length = 2 := rfl
noncomputable def fi_ParseError_init:FI:=fiOf (clsS 16 0) "ParseError.__init__" 313 false
theorem ok_ParseError_init : fi_ParseError_init.Ok := ⟨rfl,by decide⟩
theorem n_ParseError_init : fi_ParseError_init.names.length = 3 := rfl
noncomputable def fi_folded:FI:=fiOf (topS 31) "folded" 327 false
theorem ok_folded : fi_folded.Ok := ⟨rfl,by decide⟩
theorem n_folded : fi_folded.names.length = 1 := rfl
noncomputable def fi_begins_name:FI:=fiOf (topS 32) "begins_name" 334 false
theorem ok_begins_name : fi_begins_name.Ok := ⟨rfl,by decide⟩
theorem n_begins_name : fi_begins_name.names.length = 3 := rfl
noncomputable def fi_goes_on_name:FI:=fiOf (topS 33) "goes_on_name" 341 false
theorem ok_goes_on_name : fi_goes_on_name.Ok := ⟨rfl,by decide⟩
theorem n_goes_on_name : fi_goes_on_name.names.length = 3 := rfl
noncomputable def fi_Word_init:FI:=fiOf (clsS 34 0) "Word.__init__" 355 false
theorem ok_Word_init : fi_Word_init.Ok := ⟨rfl,by decide⟩
theorem n_Word_init : fi_Word_init.names.length = 5 := rfl
noncomputable def fi_Word_is_sign:FI:=fiOf (clsS 34 1) "Word.is_sign" 362 false
theorem ok_Word_is_sign : fi_Word_is_sign.Ok := ⟨rfl,by decide⟩
theorem n_Word_is_sign : fi_Word_is_sign.names.length = 2 := rfl
noncomputable def fi_Word_is_key:FI:=fiOf (clsS 34 2) "Word.is_key" 369 false
theorem ok_Word_is_key : fi_Word_is_key.Ok := ⟨rfl,by decide⟩
theorem n_Word_is_key : fi_Word_is_key.names.length = 2 := rfl
noncomputable def fi_Word_is_free:FI:=fiOf (clsS 34 3) "Word.is_free" 376 false
theorem ok_Word_is_free : fi_Word_is_free.Ok := ⟨rfl,by decide⟩
theorem n_Word_is_free : fi_Word_is_free.names.length = 2 := rfl
noncomputable def fi_Scanner_init:FI:=fiOf (clsS 35 0) "Scanner.__init__" 411 false
theorem ok_Scanner_init : fi_Scanner_init.Ok := ⟨rfl,by decide⟩
theorem n_Scanner_init : fi_Scanner_init.names.length = 2 := rfl
noncomputable def fi_Scanner_gather:FI:=fiOf (clsS 35 1) "Scanner.gather" 418 false
theorem ok_Scanner_gather : fi_Scanner_gather.Ok := ⟨rfl,by decide⟩
theorem n_Scanner_gather : fi_Scanner_gather.names.length = 6 := rfl
noncomputable def fi_Scanner_run:FI:=fiOf (clsS 35 3) "Scanner.run" 432 false
theorem ok_Scanner_run : fi_Scanner_run.Ok := ⟨rfl,by decide⟩
theorem n_Scanner_run : fi_Scanner_run.names.length = 9 := rfl
noncomputable def fi_Scanner_end_of:FI:=fiOf (clsS 35 4) "Scanner.end_of" 439 false
theorem ok_Scanner_end_of : fi_Scanner_end_of.Ok := ⟨rfl,by decide⟩
theorem n_Scanner_end_of : fi_Scanner_end_of.names.length = 5 := rfl
noncomputable def fi_Scanner_bare:FI:=fiOf (clsS 35 5) "Scanner.bare" 446 false
theorem ok_Scanner_bare : fi_Scanner_bare.Ok := ⟨rfl,by decide⟩
theorem n_Scanner_bare : fi_Scanner_bare.names.length = 9 := rfl
noncomputable def fi_Scanner_closing:FI:=fiOf (clsS 35 6) "Scanner.closing" 453 false
theorem ok_Scanner_closing : fi_Scanner_closing.Ok := ⟨rfl,by decide⟩
theorem n_Scanner_closing : fi_Scanner_closing.names.length = 5 := rfl
noncomputable def fi_Scanner_quoted_word:FI:=fiOf (clsS 35 7) "Scanner.quoted_word" 460 false
theorem ok_Scanner_quoted_word : fi_Scanner_quoted_word.Ok := ⟨rfl,by decide⟩
theorem n_Scanner_quoted_word : fi_Scanner_quoted_word.names.length = 4 := rfl
noncomputable def fi_Scanner_number:FI:=fiOf (clsS 35 9) "Scanner.number" 474 false
theorem ok_Scanner_number : fi_Scanner_number.Ok := ⟨rfl,by decide⟩
theorem n_Scanner_number : fi_Scanner_number.names.length = 9 := rfl
noncomputable def fi_Scanner_value_of:FI:=fiOf (clsS 35 10) "Scanner.value_of" 481 false
theorem ok_Scanner_value_of : fi_Scanner_value_of.Ok := ⟨rfl,by decide⟩
theorem n_Scanner_value_of : fi_Scanner_value_of.names.length = 7 := rfl
noncomputable def fi_Scanner_mark:FI:=fiOf (clsS 35 11) "Scanner.mark" 488 false
theorem ok_Scanner_mark : fi_Scanner_mark.Ok := ⟨rfl,by decide⟩
theorem n_Scanner_mark : fi_Scanner_mark.names.length = 9 := rfl
noncomputable def fi_read_words:FI:=fiOf (topS 36) "read_words" 509 false
theorem ok_read_words : fi_read_words.Ok := ⟨rfl,by decide⟩
theorem n_read_words : fi_read_words.names.length = 2 := rfl
noncomputable def fi_is_bare:FI:=fiOf (topS 39) "is_bare" 517 false
theorem ok_is_bare : fi_is_bare.Ok := ⟨rfl,by decide⟩
theorem n_is_bare : fi_is_bare.names.length = 9 := rfl
noncomputable def fi_write_name:FI:=fiOf (topS 40) "write_name" 524 false
theorem ok_write_name : fi_write_name.Ok := ⟨rfl,by decide⟩
theorem n_write_name : fi_write_name.names.length = 2 := rfl
noncomputable def fi_write_value:FI:=fiOf (topS 41) "write_value" 531 false
theorem ok_write_value : fi_write_value.Ok := ⟨rfl,by decide⟩
theorem n_write_value : fi_write_value.names.length = 4 := rfl
noncomputable def fi_write_transaction:FI:=fiOf (topS 43) "write_transaction" 538 false
theorem ok_write_transaction : fi_write_transaction.Ok := ⟨rfl,by decide⟩
theorem n_write_transaction : fi_write_transaction.names.length = 13 := rfl
noncomputable def fi_WordStream_init:FI:=fiOf (clsS 45 0) "WordStream.__init__" 552 false
theorem ok_WordStream_init : fi_WordStream_init.Ok := ⟨rfl,by decide⟩
theorem n_WordStream_init : fi_WordStream_init.names.length = 3 := rfl
noncomputable def fi_WordStream_here:FI:=fiOf (clsS 45 1) "WordStream.here" 559 false
theorem ok_WordStream_here : fi_WordStream_here.Ok := ⟨rfl,by decide⟩
theorem n_WordStream_here : fi_WordStream_here.names.length = 1 := rfl
noncomputable def fi_WordStream_go:FI:=fiOf (clsS 45 3) "WordStream.go" 573 false
theorem ok_WordStream_go : fi_WordStream_go.Ok := ⟨rfl,by decide⟩
theorem n_WordStream_go : fi_WordStream_go.names.length = 2 := rfl
noncomputable def fi_WordStream_refuse:FI:=fiOf (clsS 45 4) "WordStream.refuse" 580 true
theorem ok_WordStream_refuse : fi_WordStream_refuse.Ok := ⟨rfl,by decide⟩
theorem n_WordStream_refuse : fi_WordStream_refuse.names.length = 3 := rfl
noncomputable def fi_WordStream_is_over:FI:=fiOf (clsS 45 5) "WordStream.is_over" 587 false
theorem ok_WordStream_is_over : fi_WordStream_is_over.Ok := ⟨rfl,by decide⟩
theorem n_WordStream_is_over : fi_WordStream_is_over.names.length = 1 := rfl
noncomputable def fi_WordStream_is_one_of:FI:=fiOf (clsS 45 8) "WordStream.is_one_of" 608 false
theorem ok_WordStream_is_one_of : fi_WordStream_is_one_of.Ok := ⟨rfl,by decide⟩
theorem n_WordStream_is_one_of : fi_WordStream_is_one_of.names.length = 3 := rfl
noncomputable def fi_WordStream_take_key:FI:=fiOf (clsS 45 10) "WordStream.take_key" 622 false
theorem ok_WordStream_take_key : fi_WordStream_take_key.Ok := ⟨rfl,by decide⟩
theorem n_WordStream_take_key : fi_WordStream_take_key.names.length = 2 := rfl
noncomputable def fi_WordStream_take_sign:FI:=fiOf (clsS 45 11) "WordStream.take_sign" 629 false
theorem ok_WordStream_take_sign : fi_WordStream_take_sign.Ok := ⟨rfl,by decide⟩
theorem n_WordStream_take_sign : fi_WordStream_take_sign.names.length = 2 := rfl
noncomputable def fi_WordStream_need_sign:FI:=fiOf (clsS 45 13) "WordStream.need_sign" 643 false
theorem ok_WordStream_need_sign : fi_WordStream_need_sign.Ok := ⟨rfl,by decide⟩
theorem n_WordStream_need_sign : fi_WordStream_need_sign.names.length = 2 := rfl
noncomputable def fi_WordStream_need_name:FI:=fiOf (clsS 45 14) "WordStream.need_name" 650 false
theorem ok_WordStream_need_name : fi_WordStream_need_name.Ok := ⟨rfl,by decide⟩
theorem n_WordStream_need_name : fi_WordStream_need_name.names.length = 1 := rfl
noncomputable def fi__law_pool:FI:=fiOf (topS 47) "_law_pool" 678 false
theorem ok__law_pool : fi__law_pool.Ok := ⟨rfl,by decide⟩
theorem n__law_pool : fi__law_pool.names.length = 7 := rfl
noncomputable def fi__law_take:FI:=fiOf (topS 48) "_law_take" 685 false
theorem ok__law_take : fi__law_take.Ok := ⟨rfl,by decide⟩
theorem n__law_take : fi__law_take.names.length = 3 := rfl
noncomputable def fi__law_one:FI:=fiOf (topS 49) "_law_one" 692 false
theorem ok__law_one : fi__law_one.Ok := ⟨rfl,by decide⟩
theorem n__law_one : fi__law_one.names.length = 4 := rfl
noncomputable def fi__law_called:FI:=fiOf (topS 50) "_law_called" 699 false
theorem ok__law_called : fi__law_called.Ok := ⟨rfl,by decide⟩
theorem n__law_called : fi__law_called.names.length = 3 := rfl
noncomputable def fi__law_worth:FI:=fiOf (topS 51) "_law_worth" 706 false
theorem ok__law_worth : fi__law_worth.Ok := ⟨rfl,by decide⟩
theorem n__law_worth : fi__law_worth.names.length = 6 := rfl
noncomputable def fi__law_begin:FI:=fiOf (topS 52) "_law_begin" 713 false
theorem ok__law_begin : fi__law_begin.Ok := ⟨rfl,by decide⟩
theorem n__law_begin : fi__law_begin.names.length = 4 := rfl
noncomputable def fi__law_statement:FI:=fiOf (topS 53) "_law_statement" 720 false
theorem ok__law_statement : fi__law_statement.Ok := ⟨rfl,by decide⟩
theorem n__law_statement : fi__law_statement.names.length = 14 := rfl
noncomputable def fi__law_read:FI:=fiOf (topS 54) "_law_read" 727 false
theorem ok__law_read : fi__law_read.Ok := ⟨rfl,by decide⟩
theorem n__law_read : fi__law_read.names.length = 6 := rfl
noncomputable def fi__law_is_refused:FI:=fiOf (topS 55) "_law_is_refused" 734 false
theorem ok__law_is_refused : fi__law_is_refused.Ok := ⟨rfl,by decide⟩
theorem n__law_is_refused : fi__law_is_refused.names.length = 2 := rfl
noncomputable def fi_law:FI:=fiOf (topS 56) "law" 739 false
theorem ok_law : fi_law.Ok := ⟨rfl,by decide⟩
theorem n_law : fi_law.names.length = 21 := rfl
noncomputable def l_BEGIN_KINDS : List Str := (["DEFERRED","IMMEDIATE","EXCLUSIVE"] : List String).map Str.ofString
noncomputable def l_SIGNS_OF_TWO : List Str := (["<=",">=","<>","!=","==","||","<<",">>"] : List String).map Str.ofString
noncomputable def l_RESERVED : List Str := (["ADD","ALL","ALTER","AND","AS","AUTOINCREMENT","BETWEEN","CASE","CHECK","COLLATE","COMMIT","CONSTRAINT","CREATE","DEFAULT","DEFERRABLE","DELETE","DISTINCT","DROP","ELSE","ESCAPE","EXCEPT","EXISTS","FOREIGN","FROM","GROUP","HAVING","IN","INDEX","INSERT","INTERSECT","INTO","IS","ISNULL","JOIN","LIMIT","NOT","NOTHING","NOTNULL","NULL","ON","OR","ORDER","PRIMARY","REFERENCES","RETURNING","SELECT","SET","TABLE","THEN","TO","TRANSACTION","UNION","UNIQUE","UPDATE","USING","VALUES","WHEN","WHERE"] : List String).map Str.ofString
noncomputable def l_JOINING : List Str := (["CROSS","FULL","INDEXED","INNER","LEFT","NATURAL","OUTER","RIGHT"] : List String).map Str.ofString
noncomputable def l_QUOTED_ALWAYS : List Str := (["ABORT","ASC","BEGIN","BY","CAST","DEFERRED","DESC","END","EXCLUSIVE","EXPLAIN","FAIL","GLOB","IF","IGNORE","IMMEDIATE","KEY","LIKE","OFFSET","PRAGMA","RELEASE","REPLACE","ROLLBACK","SAVEPOINT","TO","TRANSACTION","VACUUM","WITHOUT"] : List String).map Str.ofString
theorem bb_isinstance : bootBuiltins "isinstance" = some (.builtin "isinstance") := by decide +kernel
theorem bb_int : bootBuiltins "int" = some (.type "int") := by decide +kernel
theorem bb_min : bootBuiltins "min" = some (.builtin "min") := by decide +kernel
theorem bb_max : bootBuiltins "max" = some (.builtin "max") := by decide +kernel
theorem bb_len : bootBuiltins "len" = some (.builtin "len") := by decide +kernel
theorem bb_range : bootBuiltins "range" = some (.type "range") := by decide +kernel
theorem bb_ord : bootBuiltins "ord" = some (.builtin "ord") := by decide +kernel
theorem bb_str : bootBuiltins "str" = some (.type "str") := by decide +kernel
structure Facts (g : GW) : Prop where
  KO : KOk g
  IO : IOk g
  XO : ExOk g
  kts : ktsIn g.K 316 "BaseException" = true
  ns : g.ns.length ≤ 63
  f_Begin_init : FnAt g fi_Begin_init (argsOf (clsS 3 0)) (bodyOf (clsS 3 0)) 2
  mk_Begin : MakeOk g 66 56
  f_Begin_row : FnAt g fi_Begin_row (argsOf (clsS 3 1)) (bodyOf (clsS 3 1)) 1
  m_Begin_row : MethOk g 66 3 63
  f_Commit_row : FnAt g fi_Commit_row (argsOf (clsS 4 0)) (bodyOf (clsS 4 0)) 1
  m_Commit_row : MethOk g 85 3 82
  f_Rollback_init : FnAt g fi_Rollback_init (argsOf (clsS 5 0)) (bodyOf (clsS 5 0)) 2
  mk_Rollback : MakeOk g 111 101
  f_Rollback_row : FnAt g fi_Rollback_row (argsOf (clsS 5 1)) (bodyOf (clsS 5 1)) 1
  m_Rollback_row : MethOk g 111 3 108
  f_Savepoint_init : FnAt g fi_Savepoint_init (argsOf (clsS 6 0)) (bodyOf (clsS 6 0)) 2
  mk_Savepoint : MakeOk g 137 127
  f_Savepoint_row : FnAt g fi_Savepoint_row (argsOf (clsS 6 1)) (bodyOf (clsS 6 1)) 1
  m_Savepoint_row : MethOk g 137 3 134
  f_Release_init : FnAt g fi_Release_init (argsOf (clsS 7 0)) (bodyOf (clsS 7 0)) 2
  mk_Release : MakeOk g 163 153
  f_Release_row : FnAt g fi_Release_row (argsOf (clsS 7 1)) (bodyOf (clsS 7 1)) 1
  m_Release_row : MethOk g 163 3 160
  f_Pragma_init : FnAt g fi_Pragma_init (argsOf (clsS 8 0)) (bodyOf (clsS 8 0)) 3
  mk_Pragma : MakeOk g 189 179
  f_Pragma_row : FnAt g fi_Pragma_row (argsOf (clsS 8 1)) (bodyOf (clsS 8 1)) 1
  m_Pragma_row : MethOk g 189 3 186
  f_Vacuum_row : FnAt g fi_Vacuum_row (argsOf (clsS 9 0)) (bodyOf (clsS 9 0)) 1
  m_Vacuum_row : MethOk g 208 3 205
  f_TransactionReader_init : FnAt g fi_TransactionReader_init (argsOf (clsS 12 0)) (bodyOf (clsS 12 0)) 2
  mk_TransactionReader : MakeOk g 263 225
  f_TransactionReader_transaction : FnAt g fi_TransactionReader_transaction (argsOf (clsS 12 1)) (bodyOf (clsS 12 1)) 1
  m_TransactionReader_transaction : MethOk g 263 22 232
  f_TransactionReader_begin : FnAt g fi_TransactionReader_begin (argsOf (clsS 12 2)) (bodyOf (clsS 12 2)) 1
  m_TransactionReader_begin : MethOk g 263 23 239
  f_TransactionReader_rollback : FnAt g fi_TransactionReader_rollback (argsOf (clsS 12 3)) (bodyOf (clsS 12 3)) 1
  m_TransactionReader_rollback : MethOk g 263 24 246
  f_TransactionReader_pragma : FnAt g fi_TransactionReader_pragma (argsOf (clsS 12 4)) (bodyOf (clsS 12 4)) 1
  m_TransactionReader_pragma : MethOk g 263 25 253
  f_TransactionReader_setting : FnAt g fi_TransactionReader_setting (argsOf (clsS 12 5)) (bodyOf (clsS 12 5)) 1
  m_TransactionReader_setting : MethOk g 263 26 260
  f_ParseError_init : FnAt g fi_ParseError_init (argsOf (clsS 16 0)) (bodyOf (clsS 16 0)) 3
  f_folded : FnAt g fi_folded (argsOf (topS 31)) (bodyOf (topS 31)) 1
  f_begins_name : FnAt g fi_begins_name (argsOf (topS 32)) (bodyOf (topS 32)) 1
  f_goes_on_name : FnAt g fi_goes_on_name (argsOf (topS 33)) (bodyOf (topS 33)) 1
  f_Word_init : FnAt g fi_Word_init (argsOf (clsS 34 0)) (bodyOf (clsS 34 0)) 5
  mk_Word : MakeOk g 393 355
  f_Word_is_sign : FnAt g fi_Word_is_sign (argsOf (clsS 34 1)) (bodyOf (clsS 34 1)) 2
  m_Word_is_sign : MethOk g 393 0 362
  f_Word_is_key : FnAt g fi_Word_is_key (argsOf (clsS 34 2)) (bodyOf (clsS 34 2)) 2
  m_Word_is_key : MethOk g 393 1 369
  f_Word_is_free : FnAt g fi_Word_is_free (argsOf (clsS 34 3)) (bodyOf (clsS 34 3)) 1
  m_Word_is_free : MethOk g 393 2 376
  f_Scanner_init : FnAt g fi_Scanner_init (argsOf (clsS 35 0)) (bodyOf (clsS 35 0)) 2
  mk_Scanner : MakeOk g 498 411
  f_Scanner_gather : FnAt g fi_Scanner_gather (argsOf (clsS 35 1)) (bodyOf (clsS 35 1)) 5
  m_Scanner_gather : MethOk g 498 4 418
  f_Scanner_run : FnAt g fi_Scanner_run (argsOf (clsS 35 3)) (bodyOf (clsS 35 3)) 1
  m_Scanner_run : MethOk g 498 6 432
  f_Scanner_end_of : FnAt g fi_Scanner_end_of (argsOf (clsS 35 4)) (bodyOf (clsS 35 4)) 3
  m_Scanner_end_of : MethOk g 498 7 439
  f_Scanner_bare : FnAt g fi_Scanner_bare (argsOf (clsS 35 5)) (bodyOf (clsS 35 5)) 2
  m_Scanner_bare : MethOk g 498 8 446
  f_Scanner_closing : FnAt g fi_Scanner_closing (argsOf (clsS 35 6)) (bodyOf (clsS 35 6)) 3
  m_Scanner_closing : MethOk g 498 9 453
  f_Scanner_quoted_word : FnAt g fi_Scanner_quoted_word (argsOf (clsS 35 7)) (bodyOf (clsS 35 7)) 2
  m_Scanner_quoted_word : MethOk g 498 10 460
  f_Scanner_number : FnAt g fi_Scanner_number (argsOf (clsS 35 9)) (bodyOf (clsS 35 9)) 1
  m_Scanner_number : MethOk g 498 11 474
  f_Scanner_value_of : FnAt g fi_Scanner_value_of (argsOf (clsS 35 10)) (bodyOf (clsS 35 10)) 4
  m_Scanner_value_of : MethOk g 498 12 481
  f_Scanner_mark : FnAt g fi_Scanner_mark (argsOf (clsS 35 11)) (bodyOf (clsS 35 11)) 2
  m_Scanner_mark : MethOk g 498 13 488
  f_read_words : FnAt g fi_read_words (argsOf (topS 36)) (bodyOf (topS 36)) 1
  f_is_bare : FnAt g fi_is_bare (argsOf (topS 39)) (bodyOf (topS 39)) 1
  f_write_name : FnAt g fi_write_name (argsOf (topS 40)) (bodyOf (topS 40)) 1
  f_write_value : FnAt g fi_write_value (argsOf (topS 41)) (bodyOf (topS 41)) 1
  f_write_transaction : FnAt g fi_write_transaction (argsOf (topS 43)) (bodyOf (topS 43)) 1
  f_WordStream_init : FnAt g fi_WordStream_init (argsOf (clsS 45 0)) (bodyOf (clsS 45 0)) 2
  mk_WordStream : MakeOk g 667 552
  f_WordStream_here : FnAt g fi_WordStream_here (argsOf (clsS 45 1)) (bodyOf (clsS 45 1)) 1
  m_WordStream_here : MethOk g 667 14 559
  f_WordStream_go : FnAt g fi_WordStream_go (argsOf (clsS 45 3)) (bodyOf (clsS 45 3)) 1
  m_WordStream_go : MethOk g 667 15 573
  f_WordStream_refuse : FnAt g fi_WordStream_refuse (argsOf (clsS 45 4)) (bodyOf (clsS 45 4)) 2
  m_WordStream_refuse : MethOk g 667 5 580
  f_WordStream_is_over : FnAt g fi_WordStream_is_over (argsOf (clsS 45 5)) (bodyOf (clsS 45 5)) 1
  m_WordStream_is_over : MethOk g 667 16 587
  f_WordStream_is_one_of : FnAt g fi_WordStream_is_one_of (argsOf (clsS 45 8)) (bodyOf (clsS 45 8)) 2
  m_WordStream_is_one_of : MethOk g 667 17 608
  f_WordStream_take_key : FnAt g fi_WordStream_take_key (argsOf (clsS 45 10)) (bodyOf (clsS 45 10)) 2
  m_WordStream_take_key : MethOk g 667 18 622
  f_WordStream_take_sign : FnAt g fi_WordStream_take_sign (argsOf (clsS 45 11)) (bodyOf (clsS 45 11)) 2
  m_WordStream_take_sign : MethOk g 667 19 629
  f_WordStream_need_sign : FnAt g fi_WordStream_need_sign (argsOf (clsS 45 13)) (bodyOf (clsS 45 13)) 2
  m_WordStream_need_sign : MethOk g 667 20 643
  f_WordStream_need_name : FnAt g fi_WordStream_need_name (argsOf (clsS 45 14)) (bodyOf (clsS 45 14)) 1
  m_WordStream_need_name : MethOk g 667 21 650
  f__law_pool : FnAt g fi__law_pool (argsOf (topS 47)) (bodyOf (topS 47)) 2
  f__law_take : FnAt g fi__law_take (argsOf (topS 48)) (bodyOf (topS 48)) 2
  f__law_one : FnAt g fi__law_one (argsOf (topS 49)) (bodyOf (topS 49)) 2
  f__law_called : FnAt g fi__law_called (argsOf (topS 50)) (bodyOf (topS 50)) 1
  f__law_worth : FnAt g fi__law_worth (argsOf (topS 51)) (bodyOf (topS 51)) 1
  f__law_begin : FnAt g fi__law_begin (argsOf (topS 52)) (bodyOf (topS 52)) 1
  f__law_statement : FnAt g fi__law_statement (argsOf (topS 53)) (bodyOf (topS 53)) 1
  f__law_read : FnAt g fi__law_read (argsOf (topS 54)) (bodyOf (topS 54)) 1
  f__law_is_refused : FnAt g fi__law_is_refused (argsOf (topS 55)) (bodyOf (topS 55)) 1
  f_law : True
  mk_Commit : makesIn g.K 85 = true
  mi_Commit : findIn g.K (.ref 85) "__init__" = some (some (.builtin "object.__init__"))
  mk_Vacuum : makesIn g.K 208 = true
  mi_Vacuum : findIn g.K (.ref 208) "__init__" = some (some (.builtin "object.__init__"))
  g_Begin : nsIn g.K mainGlobals "Begin" = some (some (.ref 66))
  k_Begin : keepIn g.K (.ref 66) = true
  g_Commit : nsIn g.K mainGlobals "Commit" = some (some (.ref 85))
  k_Commit : keepIn g.K (.ref 85) = true
  g_Rollback : nsIn g.K mainGlobals "Rollback" = some (some (.ref 111))
  k_Rollback : keepIn g.K (.ref 111) = true
  g_Savepoint : nsIn g.K mainGlobals "Savepoint" = some (some (.ref 137))
  k_Savepoint : keepIn g.K (.ref 137) = true
  g_Release : nsIn g.K mainGlobals "Release" = some (some (.ref 163))
  k_Release : keepIn g.K (.ref 163) = true
  g_Pragma : nsIn g.K mainGlobals "Pragma" = some (some (.ref 189))
  k_Pragma : keepIn g.K (.ref 189) = true
  g_Vacuum : nsIn g.K mainGlobals "Vacuum" = some (some (.ref 208))
  k_Vacuum : keepIn g.K (.ref 208) = true
  g_BEGIN_KINDS : nsIn g.K mainGlobals "BEGIN_KINDS" = some (some (.ref 211))
  t_BEGIN_KINDS : TopTup g 211 l_BEGIN_KINDS
  g_TransactionReader : nsIn g.K mainGlobals "TransactionReader" = some (some (.ref 263))
  k_TransactionReader : keepIn g.K (.ref 263) = true
  g_ParseError : nsIn g.K mainGlobals "ParseError" = some (some (.ref 316))
  k_ParseError : keepIn g.K (.ref 316) = true
  g_QUOTES : nsIn g.K mainGlobals "QUOTES" = some (some (.str "'\"`[" 581))
  g_BLANKS : nsIn g.K mainGlobals "BLANKS" = some (some (.str " \t\n\x0d\x0c" 583))
  g_FIGURES : nsIn g.K mainGlobals "FIGURES" = some (some (.str "0123456789" 585))
  g_LETTERS : nsIn g.K mainGlobals "LETTERS" = some (some (.str "abcdefghijklmnopqrstuvwxyzABCDEFGHIJKLMNOPQRSTUVWXYZ_" 589))
  g_NAME_SIGNS : nsIn g.K mainGlobals "NAME_SIGNS" = some (some (.str "abcdefghijklmnopqrstuvwxyzABCDEFGHIJKLMNOPQRSTUVWXYZ_0123456789$" 593))
  g_SIGNS_OF_TWO : nsIn g.K mainGlobals "SIGNS_OF_TWO" = some (some (.ref 319))
  t_SIGNS_OF_TWO : TopTup g 319 l_SIGNS_OF_TWO
  g_SIGNS_OF_ONE : nsIn g.K mainGlobals "SIGNS_OF_ONE" = some (some (.str "(),.;+-*/%=<>&|~" 604))
  g_GREATEST : nsIn g.K mainGlobals "GREATEST" = some (some (.int 9223372036854775808 617))
  g_RESERVED : nsIn g.K mainGlobals "RESERVED" = some (some (.ref 321))
  t_RESERVED : TopTup g 321 l_RESERVED
  g_JOINING : nsIn g.K mainGlobals "JOINING" = some (some (.ref 322))
  t_JOINING : TopTup g 322 l_JOINING
  g_folded : nsIn g.K mainGlobals "folded" = some (some (.ref 327))
  k_folded : keepIn g.K (.ref 327) = true
  g_begins_name : nsIn g.K mainGlobals "begins_name" = some (some (.ref 334))
  k_begins_name : keepIn g.K (.ref 334) = true
  g_goes_on_name : nsIn g.K mainGlobals "goes_on_name" = some (some (.ref 341))
  k_goes_on_name : keepIn g.K (.ref 341) = true
  g_Word : nsIn g.K mainGlobals "Word" = some (some (.ref 393))
  k_Word : keepIn g.K (.ref 393) = true
  g_Scanner : nsIn g.K mainGlobals "Scanner" = some (some (.ref 498))
  k_Scanner : keepIn g.K (.ref 498) = true
  g_read_words : nsIn g.K mainGlobals "read_words" = some (some (.ref 509))
  k_read_words : keepIn g.K (.ref 509) = true
  g_QUOTED_ALWAYS : nsIn g.K mainGlobals "QUOTED_ALWAYS" = some (some (.ref 510))
  t_QUOTED_ALWAYS : TopTup g 510 l_QUOTED_ALWAYS
  g_is_bare : nsIn g.K mainGlobals "is_bare" = some (some (.ref 517))
  k_is_bare : keepIn g.K (.ref 517) = true
  g_write_name : nsIn g.K mainGlobals "write_name" = some (some (.ref 524))
  k_write_name : keepIn g.K (.ref 524) = true
  g_write_value : nsIn g.K mainGlobals "write_value" = some (some (.ref 531))
  k_write_value : keepIn g.K (.ref 531) = true
  g_write_transaction : nsIn g.K mainGlobals "write_transaction" = some (some (.ref 538))
  k_write_transaction : keepIn g.K (.ref 538) = true
  g_WordStream : nsIn g.K mainGlobals "WordStream" = some (some (.ref 667))
  k_WordStream : keepIn g.K (.ref 667) = true
  g__law_pool : nsIn g.K mainGlobals "_law_pool" = some (some (.ref 678))
  k__law_pool : keepIn g.K (.ref 678) = true
  g__law_take : nsIn g.K mainGlobals "_law_take" = some (some (.ref 685))
  k__law_take : keepIn g.K (.ref 685) = true
  g__law_one : nsIn g.K mainGlobals "_law_one" = some (some (.ref 692))
  k__law_one : keepIn g.K (.ref 692) = true
  g__law_called : nsIn g.K mainGlobals "_law_called" = some (some (.ref 699))
  k__law_called : keepIn g.K (.ref 699) = true
  g__law_worth : nsIn g.K mainGlobals "_law_worth" = some (some (.ref 706))
  k__law_worth : keepIn g.K (.ref 706) = true
  g__law_begin : nsIn g.K mainGlobals "_law_begin" = some (some (.ref 713))
  k__law_begin : keepIn g.K (.ref 713) = true
  g__law_statement : nsIn g.K mainGlobals "_law_statement" = some (some (.ref 720))
  k__law_statement : keepIn g.K (.ref 720) = true
  g__law_read : nsIn g.K mainGlobals "_law_read" = some (some (.ref 727))
  k__law_read : keepIn g.K (.ref 727) = true
  g__law_is_refused : nsIn g.K mainGlobals "_law_is_refused" = some (some (.ref 734))
  k__law_is_refused : keepIn g.K (.ref 734) = true
  g_law : nsIn g.K mainGlobals "law" = some (some (.ref 739))
  k_law : keepIn g.K (.ref 739) = true
  b_int : nsIn g.K mainGlobals "int" = some none
  b_isinstance : nsIn g.K mainGlobals "isinstance" = some none
  b_len : nsIn g.K mainGlobals "len" = some none
  b_max : nsIn g.K mainGlobals "max" = some none
  b_min : nsIn g.K mainGlobals "min" = some none
  b_ord : nsIn g.K mainGlobals "ord" = some none
  b_range : nsIn g.K mainGlobals "range" = some none
  b_str : nsIn g.K mainGlobals "str" = some none
end Mine
end
section
namespace Mine
noncomputable def pInKeys (a : Addr) (ys : List Str) (P R : PT) : PT := fun d X loc μ Q => P d X loc μ fun b μ1 => R d X loc μ1 fun c μ2 => match b,c with
  | .pv (.str x),.pv (.top a') => a' = a ∧ Q (.pv (.bool (ys.any (· == x)))) μ2
  | _,_ => False
theorem ev_inKeys {g : GW} {fi : FI} {l r : Expr} {pos : Pos} {a : Addr} {ys : List Str} {P R : PT} (T : TopTup g a ys) (hl : EV g fi l P) (hr : EV g fi r R) (hb : behindInMarks .In r = false) : EV g fi (.Compare l [.In] [r] pos) (pInKeys a ys P R) := by
  intro d X loc μ Q h A outer base h₀ L m cs im fz s Qc Ec hD F LRR D tk hQ hE
  refine wpAny_Compare1 (hl d X loc μ _ h A outer base h₀ L m cs im fz s _ Ec hD F LRR D tk (fun r1 b1 μ1 cs1 im1 h1 tk1 F1 L1 D1 t1 sb1 pr1 hr1 hq1 => ?_) hE) hb
  refine hr d X loc μ1 _ hq1 A outer base h₀ L m cs1 im1 fz _ _ Ec hD F1 L1 D1 t1 (fun r2 b2 μ2 cs2 im2 h2 tk2 F2 L2 D2 t2 sb2 pr2 hr2 hq2 => ?_) (hE.mono sb1)
  have hr1' := AR.mono sb2 pr2 hr1
  split at hq2
  · obtain ⟨rfl,hq2⟩ := hq2
    obtain ⟨t,rfl⟩ := hr1'
    rename_i a'
    cases (show r2 = .ref a' from hr2)
    have q := hQ (.bool _) (.pv (.bool _)) μ2 cs2 im2 h2 tk2 F2 L2 D2 t2 (sb1.trans sb2) (pr1.trans pr2) rfl hq2
    exact inTop_ok (neg := false) (h₀ := h₀) (hD.X.keeps F2.keep) T (by simpa using q)
  · exact hq2.elim
noncomputable def pInTopB (neg : Bool) (ys : List Str) (P : PT) : PTB := fun d X loc μ Q => P d X loc μ fun a μ1 => match a with
  | .pv (.str x) => Q (neg ^^ ys.any (· == x)) μ1
  | _ => False
theorem bv_inTop {g : GW} {fi : FI} {l : Expr} {x : Str} {np pos : Pos} {a : Addr} {ys : List Str} {P : PT} (neg : Bool) (hl : EV g fi l P) (ok : fi.Ok) (hk : fi.scope.names.lookup x = some .globalImplicit) (hd : (x == ("__debug__" : Str)) = false)
    (hv : nsIn g.K mainGlobals x = some (some (.ref a))) (T : TopTup g a ys) : BV g fi (.Compare l [if neg then .NotIn else .In] [.Name x np] pos) (pInTopB neg ys P) := by
  intro d X loc μ Q h A outer base h₀ L m cs im fz s Qc Ec hD F LRR D tk hQ hE
  refine wpAny_isTrue_Compare1 (hl d X loc μ _ h A outer base h₀ L m cs im fz s _ Ec hD F LRR D tk (fun r1 b1 μ1 cs1 im1 h1 tk1 F1 L1 D1 t1 sb1 pr1 hr1 hq1 => ?_) hE) (by cases neg <;> rfl)
  refine name_K F1 hD.X (topRead_of hD.T) hv ?_ ok.kind hk hd
  split at hq1
  · obtain ⟨t,rfl⟩ := hr1
    exact inTop_ok (h₀ := h₀) (hD.X.keeps F1.keep) T (wpAny_truthy_bool (hQ _ _ μ1 cs1 im1 h1 tk1 F1 L1 D1 t1 sb1 pr1 rfl hq1))
  · exact hq1.elim
noncomputable def atomE : Expr → Option PV
  | .Constant (.str x) _ _ => some (.str x)
  | .Constant (.int i) _ _ => some (.int i)
  | .Constant .none _ _ => some .none
  | _ => none
noncomputable def atomsE : List Expr → Option (List PV)
  | [] => some []
  | e :: r => (atomE e).bind fun p => (atomsE r).map (p :: ·)
noncomputable def itemE : Expr → Option PV
  | .Tuple es _ _ => (atomsE es).bind fun ps => cond (Nat.ble ps.length textLine) (some (.tup ps)) none
  | .Constant c k pos => atomE (.Constant c k pos)
  | _ => none
noncomputable def itemsE : List Expr → Option (List PV)
  | [] => some []
  | e :: r => (itemE e).bind fun p => (itemsE r).map (p :: ·)
theorem allPV_pv : ∀ ps : List PV,allPV (ps.map .pv) = some ps
  | [] => rfl
  | p :: ps => by show (allPV (ps.map .pv)).map (p :: ·) = _; rw [allPV_pv ps]; rfl
section
variable {g : GW} {fi : FI}
theorem EV.as {e : Expr} {P P' : PT} (h : EV g fi e P) (hp : ∀ d X loc μ Q,P' d X loc μ Q → P d X loc μ Q) : EV g fi e P' := fun d X loc μ Q q => h d X loc μ Q (hp d X loc μ Q q)
theorem ev_atom {e : Expr} {p : PV} (h : atomE e = some p) : EV g fi e fun _ _ _ μ Q => Q (.pv p) μ := by
  unfold atomE at h
  split at h
  · cases h; exact ev_str
  · cases h; exact ev_int
  · cases h; exact ev_none
  · cases h
theorem atom_star {e : Expr} {p : PV} (h : atomE e = some p) {es : List Expr} : ∀ env,starEach (e :: es) env = (false,eval e env) :: starEach es env := by
  unfold atomE at h
  split at h
  · intro _; rfl
  · intro _; rfl
  · intro _; rfl
  · cases h
theorem lv_atoms {pos : Pos} : ∀ {es : List Expr} {ps : List PV},atomsE es = some ps → LV g fi pos es fun _ _ _ μ Q => Q (ps.map .pv) μ
  | [],_,h => by cases h; exact lv_nil
  | e :: r,_,h => by
    obtain ⟨p,hp,h⟩ := Option.bind_eq_some_iff.mp h
    obtain ⟨ps,hps,rfl⟩ := Option.map_eq_some_iff.mp h
    exact lv_cons (ev_atom hp) (lv_atoms hps) (atom_star hp)
theorem ev_item {e : Expr} {p : PV} (h : itemE e = some p) : EV g fi e fun _ _ _ μ Q => Q (.pv p) μ := by
  unfold itemE at h
  split at h
  · obtain ⟨ps,hps,h⟩ := Option.bind_eq_some_iff.mp h
    cases hl : Nat.ble ps.length textLine with
    | false => rw [hl] at h; cases h
    | true =>
      rw [hl] at h
      cases h
      refine (ev_tup (lv_atoms hps)).as fun d X loc μ Q q => ?_
      show (match allPV (ps.map .pv) with | some ps' => _ | none => False)
      rw [allPV_pv]
      exact ⟨by rw [List.length_map]; exact Nat.le_of_ble_eq_true hl,q⟩
  · exact ev_atom h
  · cases h
theorem item_star {e : Expr} {p : PV} (h : itemE e = some p) {es : List Expr} : ∀ env,starEach (e :: es) env = (false,eval e env) :: starEach es env := by
  unfold itemE at h
  split at h
  · intro _; rfl
  · intro _; rfl
  · cases h
theorem lv_items {pos : Pos} : ∀ {es : List Expr} {ps : List PV},itemsE es = some ps → LV g fi pos es fun _ _ _ μ Q => Q (ps.map .pv) μ
  | [],_,h => by cases h; exact lv_nil
  | e :: r,_,h => by
    obtain ⟨p,hp,h⟩ := Option.bind_eq_some_iff.mp h
    obtain ⟨ps,hps,rfl⟩ := Option.map_eq_some_iff.mp h
    exact lv_cons (ev_item hp) (lv_items hps) (item_star hp)
theorem ev_lstC (ps : List PV) {es : List Expr} {pos : Pos} (h : itemsE es = some ps) (hl : Nat.ble ps.length textLine = true) : EV g fi (.List es pos) fun _ _ _ μ Q => Q (.pv (.lst ps)) μ := by
  refine (ev_lst (lv_items h)).as fun d X loc μ Q q => ?_
  show (match allPV (ps.map .pv) with | some ps' => _ | none => False)
  rw [allPV_pv]
  exact ⟨by rw [List.length_map]; exact Nat.le_of_ble_eq_true hl,q⟩
theorem ev_tupC (ps : List PV) {es : List Expr} {k : Nat} {pos : Pos} (h : atomsE es = some ps) (hl : Nat.ble ps.length textLine = true) : EV g fi (.Tuple es k pos) fun _ _ _ μ Q => Q (.pv (.tup ps)) μ := by
  refine (ev_tup (lv_atoms h)).as fun d X loc μ Q q => ?_
  show (match allPV (ps.map .pv) with | some ps' => _ | none => False)
  rw [allPV_pv]
  exact ⟨by rw [List.length_map]; exact Nat.le_of_ble_eq_true hl,q⟩
end
section
variable {g : GW} {fi : FI}
noncomputable def dropM : Option AV → Option AV
  | some (.pv p) => some (.pv p)
  | _ => none
theorem svs_cut0 {body : List Stmt} {B : PTS} (hb : SVs g fi body B) : SVs g fi body fun d X loc μ QN QR => μ = [] ∧ B d X loc μ (fun loc' _ => QN (loc'.map dropM) []) QR := by
  rintro d X loc μ QN QR ⟨rfl,h⟩
  intro A outer base h₀ L m cs im fz s Qc Ec hD F LRR D tk hN hR hE
  have hcs : caddr cs = [] := by
    have e : cs = [] := D.R
    rw [e]; rfl
  refine hb d X loc [] _ QR h A outer base h₀ L m cs im fz s Qc Ec hD F LRR D tk (fun loc' μ' cs' im' h' tk' m' F' L' D' t' sb pr q => ?_) hR hE
  have D2 := D'.cut 0 rfl
  refine hN (loc'.map dropM) [] (cs'.take 0) _ h' tk' m' F' ?_ D2 t' (sb.trans fun _ h => List.mem_append_right _ h) ?_ q
  · intro i x av h1 h2
    rw [List.getElem?_map] at h2
    obtain ⟨o,ho,e⟩ := Option.map_eq_some_iff.mp h2
    cases o with
    | none => cases e
    | some a =>
      cases a with
      | pv p =>
        cases e
        obtain ⟨v,hv,hr⟩ := L' i x (.pv p) h1 ho
        exact ⟨v,hv,PR.mono (fun _ h => List.mem_append_right _ h) hr⟩
      | _ => cases e
  · rw [hcs]
    exact fun i a h => by cases h
end
noncomputable def pCmpDB (ne : Bool) (P R : PT) : PTB := fun d X loc μ Q => P d X loc μ fun a μ1 => R d X loc μ1 fun b μ2 => match cmpD ne a b with
  | some c => Q c μ2
  | none => False
theorem bv_cmpD {g : GW} {fi : FI} {l r : Expr} {pos : Pos} {P R : PT} (ne : Bool) (hl : EV g fi l P) (hr : EV g fi r R) (hb : behindInMarks (if ne then .NotEq else .Eq) r = false) : BV g fi (.Compare l [if ne then .NotEq else .Eq] [r] pos) (pCmpDB ne P R) := by
  intro d X loc μ Q h A outer base h₀ L m cs im fz s Qc Ec hD F LRR D tk hQ hE
  refine wpAny_isTrue_Compare1 (hl d X loc μ _ h A outer base h₀ L m cs im fz s _ Ec hD F LRR D tk (fun r1 b1 μ1 cs1 im1 h1 tk1 F1 L1 D1 t1 sb1 pr1 hr1 hq1 => ?_) hE) hb
  refine hr d X loc μ1 _ hq1 A outer base h₀ L m cs1 im1 fz _ _ Ec hD F1 L1 D1 t1 (fun r2 b2 μ2 cs2 im2 h2 tk2 F2 L2 D2 t2 sb2 pr2 hr2 hq2 => ?_) (hE.mono sb1)
  split at hq2
  · rename_i c hc
    exact cmpD_ok hc D2 (AR.mono sb2 pr2 hr1) hr2 hD.unit (wpAny_truthy_bool (hQ _ _ μ2 cs2 im2 h2 tk2 F2 L2 D2 t2 (sb1.trans sb2) (pr1.trans pr2) rfl hq2))
  · exact hq2.elim
theorem tl_le {n : Nat} (h : n ≤ 100000) : n ≤ textLine := Nat.le_trans h (by decide)
theorem sel.tt {x y : Prop} (h : x) : sel true x y := ⟨fun _ => h,fun z => (nomatch z)⟩
theorem sel.ff {x y : Prop} (h : y) : sel false x y := ⟨fun z => (nomatch z),fun _ => h⟩
theorem sel.no {b : Bool} {x y : Prop} (hb : b = false) (h : y) : sel b x y := ⟨fun z => (by rw [hb] at z; cases z),fun _ => h⟩
theorem MI {g : GW} {k : Nat} {C f : Addr} {cl : Option Addr} {Z : Addr → Addr → Prop} (hC : cl = some C) (M : MethOk g C k f) (q : Z C f) : ∃ C f,cl = some C ∧ MethOk g C k f ∧ Z C f := ⟨C,f,hC,M,q⟩
theorem CALL.eqF {g : GW} {d d0 : Nat} {f : Addr} {args : List AV} {μ μ1 : List MO} {v : AV} {Q : AV → List MO → Prop} {X : Prop} (h : CALL g d0 f args μ (fun b ν => b = v ∧ ν = μ1) False) (hd : d0 ≤ d) (q : Q v μ1) : CALL g d f args μ Q X :=
  (h.more hd).mono (fun b ν ⟨e1,e2⟩ => by subst e1 e2; exact q) False.elim
theorem CALLP.eqp {g : GW} {d d0 : Nat} {f : Addr} {args : List PV} {v : PV} {avs : List AV} {μ : List MO} {Q : AV → List MO → Prop} {X : Prop} (h : CALLP g d0 f args (fun r => r = v) False) (ha : avs = args.map .pv) (hd : d0 ≤ d) (q : Q (.pv v) μ) : CALL g d f avs μ Q X := by
  subst ha
  exact ((h.frame μ).more hd).mono (fun b ν ⟨e,p,eb,hp⟩ => by subst e eb hp; exact q) False.elim
noncomputable def thenB : Stmt → List Stmt
  | .If _ b _ _ => b
  | _ => []
noncomputable def elseB : Stmt → List Stmt
  | .If _ _ b _ => b
  | _ => []
noncomputable def loopB : Stmt → List Stmt
  | .For _ _ b .. => b
  | .While _ b .. => b
  | _ => []
noncomputable def stA (l : List Stmt) (i : Nat) : Stmt := l.getD i (.Pass ⟨0,0,0,0⟩)
end Mine
end
section
set_option maxHeartbeats 1000000
namespace Mine
noncomputable section
noncomputable def D_Begin_init {g : GW} (H : Facts g) : {P : PTS // SVs g fi_Begin_init (bodyOf (clsS 3 0)) P} := ⟨_,(@sv_cons _ _ _ _ _ _ (@sv_attr _ _ _ _ _ _ _ _ _ 0 H.KO (by decide) rfl (@eL _ _ _ _ ok_Begin_init 0 (by rfl) (by rfl) (by decide)) (@eL _ _ _ _ ok_Begin_init 1 (by rfl) (by rfl) (by decide)) (by intro _ ; rfl)) (@sv_nil _ _))⟩
noncomputable def D_Begin_row {g : GW} (H : Facts g) : {P : PTS // SVs g fi_Begin_row (bodyOf (clsS 3 1)) P} := ⟨_,(@sv_cons _ _ _ _ _ _ (@sv_ret _ _ _ _ _ (@ev_tup _ _ _ _ _ _ (@lv_cons _ _ _ _ _ _ _ (@eS _ _ _ _ _) (@lv_cons _ _ _ _ _ _ _ (@eA _ _ _ _ _ _ H.KO 0 (@eL _ _ _ _ ok_Begin_row 0 (by rfl) (by rfl) (by decide)) (by decide) (by rfl) (by intro _ ; rfl)) (@lv_nil _ _ _) (by intro _; rfl)) (by intro _; rfl)))) (@sv_nil _ _))⟩
noncomputable def D_Commit_row {g : GW} (H : Facts g) : {P : PTS // SVs g fi_Commit_row (bodyOf (clsS 4 0)) P} := ⟨_,(@sv_cons _ _ _ _ _ _ (@sv_ret _ _ _ _ _ (@ev_tup _ _ _ _ _ _ (@lv_cons _ _ _ _ _ _ _ (@eS _ _ _ _ _) (@lv_nil _ _ _) (by intro _; rfl)))) (@sv_nil _ _))⟩
noncomputable def D_Rollback_init {g : GW} (H : Facts g) : {P : PTS // SVs g fi_Rollback_init (bodyOf (clsS 5 0)) P} := ⟨_,(@sv_cons _ _ _ _ _ _ (@sv_attr _ _ _ _ _ _ _ _ _ 10 H.KO (by decide) rfl (@eL _ _ _ _ ok_Rollback_init 0 (by rfl) (by rfl) (by decide)) (@eL _ _ _ _ ok_Rollback_init 1 (by rfl) (by rfl) (by decide)) (by intro _ ; rfl)) (@sv_nil _ _))⟩
noncomputable def D_Rollback_row {g : GW} (H : Facts g) : {P : PTS // SVs g fi_Rollback_row (bodyOf (clsS 5 1)) P} := ⟨_,(@sv_cons _ _ _ _ _ _ (@sv_ret _ _ _ _ _ (@ev_tup _ _ _ _ _ _ (@lv_cons _ _ _ _ _ _ _ (@eS _ _ _ _ _) (@lv_cons _ _ _ _ _ _ _ (@eA _ _ _ _ _ _ H.KO 10 (@eL _ _ _ _ ok_Rollback_row 0 (by rfl) (by rfl) (by decide)) (by decide) (by rfl) (by intro _ ; rfl)) (@lv_nil _ _ _) (by intro _; rfl)) (by intro _; rfl)))) (@sv_nil _ _))⟩
noncomputable def D_Savepoint_init {g : GW} (H : Facts g) : {P : PTS // SVs g fi_Savepoint_init (bodyOf (clsS 6 0)) P} := ⟨_,(@sv_cons _ _ _ _ _ _ (@sv_attr _ _ _ _ _ _ _ _ _ 10 H.KO (by decide) rfl (@eL _ _ _ _ ok_Savepoint_init 0 (by rfl) (by rfl) (by decide)) (@eL _ _ _ _ ok_Savepoint_init 1 (by rfl) (by rfl) (by decide)) (by intro _ ; rfl)) (@sv_nil _ _))⟩
noncomputable def D_Savepoint_row {g : GW} (H : Facts g) : {P : PTS // SVs g fi_Savepoint_row (bodyOf (clsS 6 1)) P} := ⟨_,(@sv_cons _ _ _ _ _ _ (@sv_ret _ _ _ _ _ (@ev_tup _ _ _ _ _ _ (@lv_cons _ _ _ _ _ _ _ (@eS _ _ _ _ _) (@lv_cons _ _ _ _ _ _ _ (@eA _ _ _ _ _ _ H.KO 10 (@eL _ _ _ _ ok_Savepoint_row 0 (by rfl) (by rfl) (by decide)) (by decide) (by rfl) (by intro _ ; rfl)) (@lv_nil _ _ _) (by intro _; rfl)) (by intro _; rfl)))) (@sv_nil _ _))⟩
noncomputable def D_Release_init {g : GW} (H : Facts g) : {P : PTS // SVs g fi_Release_init (bodyOf (clsS 7 0)) P} := ⟨_,(@sv_cons _ _ _ _ _ _ (@sv_attr _ _ _ _ _ _ _ _ _ 10 H.KO (by decide) rfl (@eL _ _ _ _ ok_Release_init 0 (by rfl) (by rfl) (by decide)) (@eL _ _ _ _ ok_Release_init 1 (by rfl) (by rfl) (by decide)) (by intro _ ; rfl)) (@sv_nil _ _))⟩
noncomputable def D_Release_row {g : GW} (H : Facts g) : {P : PTS // SVs g fi_Release_row (bodyOf (clsS 7 1)) P} := ⟨_,(@sv_cons _ _ _ _ _ _ (@sv_ret _ _ _ _ _ (@ev_tup _ _ _ _ _ _ (@lv_cons _ _ _ _ _ _ _ (@eS _ _ _ _ _) (@lv_cons _ _ _ _ _ _ _ (@eA _ _ _ _ _ _ H.KO 10 (@eL _ _ _ _ ok_Release_row 0 (by rfl) (by rfl) (by decide)) (by decide) (by rfl) (by intro _ ; rfl)) (@lv_nil _ _ _) (by intro _; rfl)) (by intro _; rfl)))) (@sv_nil _ _))⟩
noncomputable def D_Pragma_init {g : GW} (H : Facts g) : {P : PTS // SVs g fi_Pragma_init (bodyOf (clsS 8 0)) P} := ⟨_,(@sv_cons _ _ _ _ _ _ (@sv_attr _ _ _ _ _ _ _ _ _ 10 H.KO (by decide) rfl (@eL _ _ _ _ ok_Pragma_init 0 (by rfl) (by rfl) (by decide)) (@eL _ _ _ _ ok_Pragma_init 1 (by rfl) (by rfl) (by decide)) (by intro _ ; rfl)) (@sv_cons _ _ _ _ _ _ (@sv_attr _ _ _ _ _ _ _ _ _ 2 H.KO (by decide) rfl (@eL _ _ _ _ ok_Pragma_init 0 (by rfl) (by rfl) (by decide)) (@eL _ _ _ _ ok_Pragma_init 2 (by rfl) (by rfl) (by decide)) (by intro _ ; rfl)) (@sv_nil _ _)))⟩
noncomputable def D_Pragma_row {g : GW} (H : Facts g) : {P : PTS // SVs g fi_Pragma_row (bodyOf (clsS 8 1)) P} := ⟨_,(@sv_cons _ _ _ _ _ _ (@sv_ret _ _ _ _ _ (@ev_tup _ _ _ _ _ _ (@lv_cons _ _ _ _ _ _ _ (@eS _ _ _ _ _) (@lv_cons _ _ _ _ _ _ _ (@eA _ _ _ _ _ _ H.KO 10 (@eL _ _ _ _ ok_Pragma_row 0 (by rfl) (by rfl) (by decide)) (by decide) (by rfl) (by intro _ ; rfl)) (@lv_cons _ _ _ _ _ _ _ (@eA _ _ _ _ _ _ H.KO 2 (@eL _ _ _ _ ok_Pragma_row 0 (by rfl) (by rfl) (by decide)) (by decide) (by rfl) (by intro _ ; rfl)) (@lv_nil _ _ _) (by intro _; rfl)) (by intro _; rfl)) (by intro _; rfl)))) (@sv_nil _ _))⟩
noncomputable def D_Vacuum_row {g : GW} (H : Facts g) : {P : PTS // SVs g fi_Vacuum_row (bodyOf (clsS 9 0)) P} := ⟨_,(@sv_cons _ _ _ _ _ _ (@sv_ret _ _ _ _ _ (@ev_tup _ _ _ _ _ _ (@lv_cons _ _ _ _ _ _ _ (@eS _ _ _ _ _) (@lv_nil _ _ _) (by intro _; rfl)))) (@sv_nil _ _))⟩
noncomputable def D_TransactionReader_init {g : GW} (H : Facts g) : {P : PTS // SVs g fi_TransactionReader_init (bodyOf (clsS 12 0)) P} := ⟨_,(@sv_cons _ _ _ _ _ _ (@sv_attr _ _ _ _ _ _ _ _ _ 9 H.KO (by decide) rfl (@eL _ _ _ _ ok_TransactionReader_init 0 (by rfl) (by rfl) (by decide)) (@eL _ _ _ _ ok_TransactionReader_init 1 (by rfl) (by rfl) (by decide)) (by intro _ ; rfl)) (@sv_nil _ _))⟩
noncomputable def D_TransactionReader_transaction_0 {g : GW} (H : Facts g) : {P : PTS // SVs g fi_TransactionReader_transaction (List.drop 6 (bodyOf (clsS 12 1))) P} := ⟨_,(@sv_cons _ _ _ _ _ _ (@sv_if _ _ _ _ _ _ _ _ _ (@bv_plain _ _ _ _ (@eM _ _ _ _ _ _ _ _ _ 18 ok_TransactionReader_transaction (@eA _ _ _ _ _ _ H.KO 9 (@eL _ _ _ _ ok_TransactionReader_transaction 0 (by rfl) (by rfl) (by decide)) (by decide) (by rfl) (by intro _ ; rfl)) (@lv_cons _ _ _ _ _ _ _ (@eS _ _ _ _ _) (@lv_nil _ _ _) (by intro _; rfl)) _ (by rfl) (by intro _ ; rfl) (by intro _ ; rfl) (by intro _ _ _ h ; cases h <;> rfl)) (by intro _ _ ; rfl)) (@sv_cons _ _ _ _ _ _ (@sv_ret _ _ _ _ _ (@eM _ _ _ _ _ _ _ _ _ 25 ok_TransactionReader_transaction (@eL _ _ _ _ ok_TransactionReader_transaction 0 (by rfl) (by rfl) (by decide)) (@lv_nil _ _ _) _ (by rfl) (by intro _ ; rfl) (by intro _ ; rfl) (by intro _ _ _ h ; cases h <;> rfl))) (@sv_nil _ _)) (@sv_nil _ _)) (@sv_cons _ _ _ _ _ _ (@sv_ret _ _ _ _ _ (@eM _ _ _ _ _ _ _ _ _ 5 ok_TransactionReader_transaction (@eA _ _ _ _ _ _ H.KO 9 (@eL _ _ _ _ ok_TransactionReader_transaction 0 (by rfl) (by rfl) (by decide)) (by decide) (by rfl) (by intro _ ; rfl)) (@lv_cons _ _ _ _ _ _ _ (@eS _ _ _ _ _) (@lv_nil _ _ _) (by intro _; rfl)) _ (by rfl) (by intro _ ; rfl) (by intro _ ; rfl) (by intro _ _ _ h ; cases h <;> rfl))) (@sv_nil _ _)))⟩
noncomputable def D_TransactionReader_transaction_1 {g : GW} (H : Facts g) : {P : PTS // SVs g fi_TransactionReader_transaction (List.drop 4 (bodyOf (clsS 12 1))) P} := ⟨_,(@sv_cons _ _ _ _ _ _ (@sv_if _ _ _ _ _ _ _ _ _ (@bv_plain _ _ _ _ (@eM _ _ _ _ _ _ _ _ _ 18 ok_TransactionReader_transaction (@eA _ _ _ _ _ _ H.KO 9 (@eL _ _ _ _ ok_TransactionReader_transaction 0 (by rfl) (by rfl) (by decide)) (by decide) (by rfl) (by intro _ ; rfl)) (@lv_cons _ _ _ _ _ _ _ (@eS _ _ _ _ _) (@lv_nil _ _ _) (by intro _; rfl)) _ (by rfl) (by intro _ ; rfl) (by intro _ ; rfl) (by intro _ _ _ h ; cases h <;> rfl)) (by intro _ _ ; rfl)) (@sv_cons _ _ _ _ _ _ (@sv_expr _ _ _ _ _ (@eM _ _ _ _ _ _ _ _ _ 18 ok_TransactionReader_transaction (@eA _ _ _ _ _ _ H.KO 9 (@eL _ _ _ _ ok_TransactionReader_transaction 0 (by rfl) (by rfl) (by decide)) (by decide) (by rfl) (by intro _ ; rfl)) (@lv_cons _ _ _ _ _ _ _ (@eS _ _ _ _ _) (@lv_nil _ _ _) (by intro _; rfl)) _ (by rfl) (by intro _ ; rfl) (by intro _ ; rfl) (by intro _ _ _ h ; cases h <;> rfl)) ok_TransactionReader_transaction (by intro _ ; rfl)) (@sv_cons _ _ _ _ _ _ (@sv_ret _ _ _ _ _ (@eC _ _ _ _ _ _ _ _ ok_TransactionReader_transaction H.g_Release H.k_Release (@lv_cons _ _ _ _ _ _ _ (@eM _ _ _ _ _ _ _ _ _ 21 ok_TransactionReader_transaction (@eA _ _ _ _ _ _ H.KO 9 (@eL _ _ _ _ ok_TransactionReader_transaction 0 (by rfl) (by rfl) (by decide)) (by decide) (by rfl) (by intro _ ; rfl)) (@lv_nil _ _ _) _ (by rfl) (by intro _ ; rfl) (by intro _ ; rfl) (by intro _ _ _ h ; cases h <;> rfl)) (@lv_nil _ _ _) (by intro _; rfl)) (by rfl) (by decide) (by intro _ ; rfl) (by intro _ _ _ h ; cases h <;> rfl))) (@sv_nil _ _))) (@sv_nil _ _)) (@sv_cons _ _ _ _ _ _ (@sv_if _ _ _ _ _ _ _ _ _ (@bv_plain _ _ _ _ (@eM _ _ _ _ _ _ _ _ _ 18 ok_TransactionReader_transaction (@eA _ _ _ _ _ _ H.KO 9 (@eL _ _ _ _ ok_TransactionReader_transaction 0 (by rfl) (by rfl) (by decide)) (by decide) (by rfl) (by intro _ ; rfl)) (@lv_cons _ _ _ _ _ _ _ (@eS _ _ _ _ _) (@lv_nil _ _ _) (by intro _; rfl)) _ (by rfl) (by intro _ ; rfl) (by intro _ ; rfl) (by intro _ _ _ h ; cases h <;> rfl)) (by intro _ _ ; rfl)) (@sv_cons _ _ _ _ _ _ (@sv_ret _ _ _ _ _ (@eC _ _ _ _ _ _ _ _ ok_TransactionReader_transaction H.g_Vacuum H.k_Vacuum (@lv_nil _ _ _) (by rfl) (by decide) (by intro _ ; rfl) (by intro _ _ _ h ; cases h <;> rfl))) (@sv_nil _ _)) (@sv_nil _ _)) (@Subtype.property _ _ (D_TransactionReader_transaction_0 H))))⟩
noncomputable def D_TransactionReader_transaction_2 {g : GW} (H : Facts g) : {P : PTS // SVs g fi_TransactionReader_transaction (List.drop 3 (bodyOf (clsS 12 1))) P} := ⟨_,(@sv_cons _ _ _ _ _ _ (@sv_if _ _ _ _ _ _ _ _ _ (@bv_plain _ _ _ _ (@eM _ _ _ _ _ _ _ _ _ 18 ok_TransactionReader_transaction (@eA _ _ _ _ _ _ H.KO 9 (@eL _ _ _ _ ok_TransactionReader_transaction 0 (by rfl) (by rfl) (by decide)) (by decide) (by rfl) (by intro _ ; rfl)) (@lv_cons _ _ _ _ _ _ _ (@eS _ _ _ _ _) (@lv_nil _ _ _) (by intro _; rfl)) _ (by rfl) (by intro _ ; rfl) (by intro _ ; rfl) (by intro _ _ _ h ; cases h <;> rfl)) (by intro _ _ ; rfl)) (@sv_cons _ _ _ _ _ _ (@sv_ret _ _ _ _ _ (@eC _ _ _ _ _ _ _ _ ok_TransactionReader_transaction H.g_Savepoint H.k_Savepoint (@lv_cons _ _ _ _ _ _ _ (@eM _ _ _ _ _ _ _ _ _ 21 ok_TransactionReader_transaction (@eA _ _ _ _ _ _ H.KO 9 (@eL _ _ _ _ ok_TransactionReader_transaction 0 (by rfl) (by rfl) (by decide)) (by decide) (by rfl) (by intro _ ; rfl)) (@lv_nil _ _ _) _ (by rfl) (by intro _ ; rfl) (by intro _ ; rfl) (by intro _ _ _ h ; cases h <;> rfl)) (@lv_nil _ _ _) (by intro _; rfl)) (by rfl) (by decide) (by intro _ ; rfl) (by intro _ _ _ h ; cases h <;> rfl))) (@sv_nil _ _)) (@sv_nil _ _)) (@Subtype.property _ _ (D_TransactionReader_transaction_1 H)))⟩
noncomputable def D_TransactionReader_transaction_3 {g : GW} (H : Facts g) : {P : PTS // SVs g fi_TransactionReader_transaction (List.drop 1 (bodyOf (clsS 12 1))) P} := ⟨_,(@sv_cons _ _ _ _ _ _ (@sv_if _ _ _ _ _ _ _ _ _ (@bv_or _ _ _ _ _ _ _ (@bv_plain _ _ _ _ (@eM _ _ _ _ _ _ _ _ _ 18 ok_TransactionReader_transaction (@eA _ _ _ _ _ _ H.KO 9 (@eL _ _ _ _ ok_TransactionReader_transaction 0 (by rfl) (by rfl) (by decide)) (by decide) (by rfl) (by intro _ ; rfl)) (@lv_cons _ _ _ _ _ _ _ (@eS _ _ _ _ _) (@lv_nil _ _ _) (by intro _; rfl)) _ (by rfl) (by intro _ ; rfl) (by intro _ ; rfl) (by intro _ _ _ h ; cases h <;> rfl)) (by intro _ _ ; rfl)) (@bv_or _ _ _ _ _ _ _ (@bv_plain _ _ _ _ (@eM _ _ _ _ _ _ _ _ _ 18 ok_TransactionReader_transaction (@eA _ _ _ _ _ _ H.KO 9 (@eL _ _ _ _ ok_TransactionReader_transaction 0 (by rfl) (by rfl) (by decide)) (by decide) (by rfl) (by intro _ ; rfl)) (@lv_cons _ _ _ _ _ _ _ (@eS _ _ _ _ _) (@lv_nil _ _ _) (by intro _; rfl)) _ (by rfl) (by intro _ ; rfl) (by intro _ ; rfl) (by intro _ _ _ h ; cases h <;> rfl)) (by intro _ _ ; rfl)) (@bv_or_nil _ _ _) (by intro _ _ _ ; rfl)) (by intro _ _ _ ; rfl)) (@sv_cons _ _ _ _ _ _ (@sv_expr _ _ _ _ _ (@eM _ _ _ _ _ _ _ _ _ 18 ok_TransactionReader_transaction (@eA _ _ _ _ _ _ H.KO 9 (@eL _ _ _ _ ok_TransactionReader_transaction 0 (by rfl) (by rfl) (by decide)) (by decide) (by rfl) (by intro _ ; rfl)) (@lv_cons _ _ _ _ _ _ _ (@eS _ _ _ _ _) (@lv_nil _ _ _) (by intro _; rfl)) _ (by rfl) (by intro _ ; rfl) (by intro _ ; rfl) (by intro _ _ _ h ; cases h <;> rfl)) ok_TransactionReader_transaction (by intro _ ; rfl)) (@sv_cons _ _ _ _ _ _ (@sv_ret _ _ _ _ _ (@eC _ _ _ _ _ _ _ _ ok_TransactionReader_transaction H.g_Commit H.k_Commit (@lv_nil _ _ _) (by rfl) (by decide) (by intro _ ; rfl) (by intro _ _ _ h ; cases h <;> rfl))) (@sv_nil _ _))) (@sv_nil _ _)) (@sv_cons _ _ _ _ _ _ (@sv_if _ _ _ _ _ _ _ _ _ (@bv_plain _ _ _ _ (@eM _ _ _ _ _ _ _ _ _ 18 ok_TransactionReader_transaction (@eA _ _ _ _ _ _ H.KO 9 (@eL _ _ _ _ ok_TransactionReader_transaction 0 (by rfl) (by rfl) (by decide)) (by decide) (by rfl) (by intro _ ; rfl)) (@lv_cons _ _ _ _ _ _ _ (@eS _ _ _ _ _) (@lv_nil _ _ _) (by intro _; rfl)) _ (by rfl) (by intro _ ; rfl) (by intro _ ; rfl) (by intro _ _ _ h ; cases h <;> rfl)) (by intro _ _ ; rfl)) (@sv_cons _ _ _ _ _ _ (@sv_ret _ _ _ _ _ (@eM _ _ _ _ _ _ _ _ _ 24 ok_TransactionReader_transaction (@eL _ _ _ _ ok_TransactionReader_transaction 0 (by rfl) (by rfl) (by decide)) (@lv_nil _ _ _) _ (by rfl) (by intro _ ; rfl) (by intro _ ; rfl) (by intro _ _ _ h ; cases h <;> rfl))) (@sv_nil _ _)) (@sv_nil _ _)) (@Subtype.property _ _ (D_TransactionReader_transaction_2 H))))⟩
noncomputable def D_TransactionReader_transaction {g : GW} (H : Facts g) : {P : PTS // SVs g fi_TransactionReader_transaction (bodyOf (clsS 12 1)) P} := ⟨_,(@sv_cons _ _ _ _ _ _ (@sv_if _ _ _ _ _ _ _ _ _ (@bv_plain _ _ _ _ (@eM _ _ _ _ _ _ _ _ _ 18 ok_TransactionReader_transaction (@eA _ _ _ _ _ _ H.KO 9 (@eL _ _ _ _ ok_TransactionReader_transaction 0 (by rfl) (by rfl) (by decide)) (by decide) (by rfl) (by intro _ ; rfl)) (@lv_cons _ _ _ _ _ _ _ (@eS _ _ _ _ _) (@lv_nil _ _ _) (by intro _; rfl)) _ (by rfl) (by intro _ ; rfl) (by intro _ ; rfl) (by intro _ _ _ h ; cases h <;> rfl)) (by intro _ _ ; rfl)) (@sv_cons _ _ _ _ _ _ (@sv_ret _ _ _ _ _ (@eM _ _ _ _ _ _ _ _ _ 23 ok_TransactionReader_transaction (@eL _ _ _ _ ok_TransactionReader_transaction 0 (by rfl) (by rfl) (by decide)) (@lv_nil _ _ _) _ (by rfl) (by intro _ ; rfl) (by intro _ ; rfl) (by intro _ _ _ h ; cases h <;> rfl))) (@sv_nil _ _)) (@sv_nil _ _)) (@Subtype.property _ _ (D_TransactionReader_transaction_3 H)))⟩
noncomputable def D_TransactionReader_begin_0 {g : GW} (H : Facts g) : {P : PTS // SVs g fi_TransactionReader_begin (List.drop 1 (bodyOf (clsS 12 2))) P} := ⟨_,(@sv_cons _ _ _ _ _ _ (@sv_if _ _ _ _ _ _ _ _ _ (@bv_plain _ _ _ _ (@eM _ _ _ _ _ _ _ _ _ 17 ok_TransactionReader_begin (@eA _ _ _ _ _ _ H.KO 9 (@eL _ _ _ _ ok_TransactionReader_begin 0 (by rfl) (by rfl) (by decide)) (by decide) (by rfl) (by intro _ ; rfl)) (@lv_cons _ _ _ _ _ _ _ (@eT _ _ _ _ _ _ ok_TransactionReader_begin H.g_BEGIN_KINDS (by rfl) (by rfl) (by decide)) (@lv_nil _ _ _) (by intro _; rfl)) _ (by rfl) (by intro _ ; rfl) (by intro _ ; rfl) (by intro _ _ _ h ; cases h <;> rfl)) (by intro _ _ ; rfl)) (@sv_cons _ _ _ _ _ _ (@sv_asg _ _ _ _ _ _ _ 1 ok_TransactionReader_begin rfl rfl (@ev_strM _ _ _ _ _ _ _ _ _ .lower rfl (@eA _ _ _ _ _ _ H.KO 1 (@eM _ _ _ _ _ _ _ _ _ 15 ok_TransactionReader_begin (@eA _ _ _ _ _ _ H.KO 9 (@eL _ _ _ _ ok_TransactionReader_begin 0 (by rfl) (by rfl) (by decide)) (by decide) (by rfl) (by intro _ ; rfl)) (@lv_nil _ _ _) _ (by rfl) (by intro _ ; rfl) (by intro _ ; rfl) (by intro _ _ _ h ; cases h <;> rfl)) (by decide) (by rfl) (by intro _ ; rfl)) (@lv_nil _ _ _) _ (by intro _ ; rfl) (by intro _ ; rfl) (by intro _ _ _ h ; cases h <;> rfl)) (by intro _ ; rfl)) (@sv_nil _ _)) (@sv_nil _ _)) (@sv_cons _ _ _ _ _ _ (@sv_expr _ _ _ _ _ (@eM _ _ _ _ _ _ _ _ _ 18 ok_TransactionReader_begin (@eA _ _ _ _ _ _ H.KO 9 (@eL _ _ _ _ ok_TransactionReader_begin 0 (by rfl) (by rfl) (by decide)) (by decide) (by rfl) (by intro _ ; rfl)) (@lv_cons _ _ _ _ _ _ _ (@eS _ _ _ _ _) (@lv_nil _ _ _) (by intro _; rfl)) _ (by rfl) (by intro _ ; rfl) (by intro _ ; rfl) (by intro _ _ _ h ; cases h <;> rfl)) ok_TransactionReader_begin (by intro _ ; rfl)) (@sv_cons _ _ _ _ _ _ (@sv_ret _ _ _ _ _ (@eC _ _ _ _ _ _ _ _ ok_TransactionReader_begin H.g_Begin H.k_Begin (@lv_cons _ _ _ _ _ _ _ (@eL _ _ _ _ ok_TransactionReader_begin 1 (by rfl) (by rfl) (by decide)) (@lv_nil _ _ _) (by intro _; rfl)) (by rfl) (by decide) (by intro _ ; rfl) (by intro _ _ _ h ; cases h <;> rfl))) (@sv_nil _ _))))⟩
noncomputable def D_TransactionReader_begin {g : GW} (H : Facts g) : {P : PTS // SVs g fi_TransactionReader_begin (bodyOf (clsS 12 2)) P} := ⟨_,(@sv_cons _ _ _ _ _ _ (@sv_asg _ _ _ _ _ _ _ 1 ok_TransactionReader_begin rfl rfl (@eS _ _ _ _ _) (by intro _ ; rfl)) (@Subtype.property _ _ (D_TransactionReader_begin_0 H)))⟩
noncomputable def D_TransactionReader_rollback_0 {g : GW} (H : Facts g) : {P : PTS // SVs g fi_TransactionReader_rollback (List.drop 1 (bodyOf (clsS 12 3))) P} := ⟨_,(@sv_cons _ _ _ _ _ _ (@sv_if _ _ _ _ _ _ _ _ _ (@bv_not _ _ _ _ _ (@bv_plain _ _ _ _ (@eM _ _ _ _ _ _ _ _ _ 18 ok_TransactionReader_rollback (@eA _ _ _ _ _ _ H.KO 9 (@eL _ _ _ _ ok_TransactionReader_rollback 0 (by rfl) (by rfl) (by decide)) (by decide) (by rfl) (by intro _ ; rfl)) (@lv_cons _ _ _ _ _ _ _ (@eS _ _ _ _ _) (@lv_nil _ _ _) (by intro _; rfl)) _ (by rfl) (by intro _ ; rfl) (by intro _ ; rfl) (by intro _ _ _ h ; cases h <;> rfl)) (by intro _ _ ; rfl))) (@sv_cons _ _ _ _ _ _ (@sv_ret _ _ _ _ _ (@eC _ _ _ _ _ _ _ _ ok_TransactionReader_rollback H.g_Rollback H.k_Rollback (@lv_cons _ _ _ _ _ _ _ (@ev_none _ _ _ _) (@lv_nil _ _ _) (by intro _; rfl)) (by rfl) (by decide) (by intro _ ; rfl) (by intro _ _ _ h ; cases h <;> rfl))) (@sv_nil _ _)) (@sv_nil _ _)) (@sv_cons _ _ _ _ _ _ (@sv_expr _ _ _ _ _ (@eM _ _ _ _ _ _ _ _ _ 18 ok_TransactionReader_rollback (@eA _ _ _ _ _ _ H.KO 9 (@eL _ _ _ _ ok_TransactionReader_rollback 0 (by rfl) (by rfl) (by decide)) (by decide) (by rfl) (by intro _ ; rfl)) (@lv_cons _ _ _ _ _ _ _ (@eS _ _ _ _ _) (@lv_nil _ _ _) (by intro _; rfl)) _ (by rfl) (by intro _ ; rfl) (by intro _ ; rfl) (by intro _ _ _ h ; cases h <;> rfl)) ok_TransactionReader_rollback (by intro _ ; rfl)) (@sv_cons _ _ _ _ _ _ (@sv_ret _ _ _ _ _ (@eC _ _ _ _ _ _ _ _ ok_TransactionReader_rollback H.g_Rollback H.k_Rollback (@lv_cons _ _ _ _ _ _ _ (@eM _ _ _ _ _ _ _ _ _ 21 ok_TransactionReader_rollback (@eA _ _ _ _ _ _ H.KO 9 (@eL _ _ _ _ ok_TransactionReader_rollback 0 (by rfl) (by rfl) (by decide)) (by decide) (by rfl) (by intro _ ; rfl)) (@lv_nil _ _ _) _ (by rfl) (by intro _ ; rfl) (by intro _ ; rfl) (by intro _ _ _ h ; cases h <;> rfl)) (@lv_nil _ _ _) (by intro _; rfl)) (by rfl) (by decide) (by intro _ ; rfl) (by intro _ _ _ h ; cases h <;> rfl))) (@sv_nil _ _))))⟩
noncomputable def D_TransactionReader_rollback {g : GW} (H : Facts g) : {P : PTS // SVs g fi_TransactionReader_rollback (bodyOf (clsS 12 3)) P} := ⟨_,(@sv_cons _ _ _ _ _ _ (@sv_expr _ _ _ _ _ (@eM _ _ _ _ _ _ _ _ _ 18 ok_TransactionReader_rollback (@eA _ _ _ _ _ _ H.KO 9 (@eL _ _ _ _ ok_TransactionReader_rollback 0 (by rfl) (by rfl) (by decide)) (by decide) (by rfl) (by intro _ ; rfl)) (@lv_cons _ _ _ _ _ _ _ (@eS _ _ _ _ _) (@lv_nil _ _ _) (by intro _; rfl)) _ (by rfl) (by intro _ ; rfl) (by intro _ ; rfl) (by intro _ _ _ h ; cases h <;> rfl)) ok_TransactionReader_rollback (by intro _ ; rfl)) (@Subtype.property _ _ (D_TransactionReader_rollback_0 H)))⟩
noncomputable def D_TransactionReader_pragma_0 {g : GW} (H : Facts g) : {P : PTS // SVs g fi_TransactionReader_pragma (thenB (stA (bodyOf (clsS 12 4)) 2)) P} := ⟨_,(@sv_cons _ _ _ _ _ _ (@sv_asg _ _ _ _ _ _ _ 2 ok_TransactionReader_pragma rfl rfl (@eM _ _ _ _ _ _ _ _ _ 26 ok_TransactionReader_pragma (@eL _ _ _ _ ok_TransactionReader_pragma 0 (by rfl) (by rfl) (by decide)) (@lv_nil _ _ _) _ (by rfl) (by intro _ ; rfl) (by intro _ ; rfl) (by intro _ _ _ h ; cases h <;> rfl)) (by intro _ ; rfl)) (@sv_cons _ _ _ _ _ _ (@sv_expr _ _ _ _ _ (@eM _ _ _ _ _ _ _ _ _ 20 ok_TransactionReader_pragma (@eA _ _ _ _ _ _ H.KO 9 (@eL _ _ _ _ ok_TransactionReader_pragma 0 (by rfl) (by rfl) (by decide)) (by decide) (by rfl) (by intro _ ; rfl)) (@lv_cons _ _ _ _ _ _ _ (@eS _ _ _ _ _) (@lv_nil _ _ _) (by intro _; rfl)) _ (by rfl) (by intro _ ; rfl) (by intro _ ; rfl) (by intro _ _ _ h ; cases h <;> rfl)) ok_TransactionReader_pragma (by intro _ ; rfl)) (@sv_cons _ _ _ _ _ _ (@sv_ret _ _ _ _ _ (@eC _ _ _ _ _ _ _ _ ok_TransactionReader_pragma H.g_Pragma H.k_Pragma (@lv_cons _ _ _ _ _ _ _ (@eL _ _ _ _ ok_TransactionReader_pragma 1 (by rfl) (by rfl) (by decide)) (@lv_cons _ _ _ _ _ _ _ (@eL _ _ _ _ ok_TransactionReader_pragma 2 (by rfl) (by rfl) (by decide)) (@lv_nil _ _ _) (by intro _; rfl)) (by intro _; rfl)) (by rfl) (by decide) (by intro _ ; rfl) (by intro _ _ _ h ; cases h <;> rfl))) (@sv_nil _ _))))⟩
noncomputable def D_TransactionReader_pragma_1 {g : GW} (H : Facts g) : {P : PTS // SVs g fi_TransactionReader_pragma (List.drop 2 (bodyOf (clsS 12 4))) P} := ⟨_,(@sv_cons _ _ _ _ _ _ (@sv_if _ _ _ _ _ _ _ _ _ (@bv_plain _ _ _ _ (@eM _ _ _ _ _ _ _ _ _ 19 ok_TransactionReader_pragma (@eA _ _ _ _ _ _ H.KO 9 (@eL _ _ _ _ ok_TransactionReader_pragma 0 (by rfl) (by rfl) (by decide)) (by decide) (by rfl) (by intro _ ; rfl)) (@lv_cons _ _ _ _ _ _ _ (@eS _ _ _ _ _) (@lv_nil _ _ _) (by intro _; rfl)) _ (by rfl) (by intro _ ; rfl) (by intro _ ; rfl) (by intro _ _ _ h ; cases h <;> rfl)) (by intro _ _ ; rfl)) (@Subtype.property _ _ (D_TransactionReader_pragma_0 H)) (@sv_nil _ _)) (@sv_cons _ _ _ _ _ _ (@sv_ret _ _ _ _ _ (@eC _ _ _ _ _ _ _ _ ok_TransactionReader_pragma H.g_Pragma H.k_Pragma (@lv_cons _ _ _ _ _ _ _ (@eL _ _ _ _ ok_TransactionReader_pragma 1 (by rfl) (by rfl) (by decide)) (@lv_cons _ _ _ _ _ _ _ (@ev_none _ _ _ _) (@lv_nil _ _ _) (by intro _; rfl)) (by intro _; rfl)) (by rfl) (by decide) (by intro _ ; rfl) (by intro _ _ _ h ; cases h <;> rfl))) (@sv_nil _ _)))⟩
noncomputable def D_TransactionReader_pragma_2 {g : GW} (H : Facts g) : {P : PTS // SVs g fi_TransactionReader_pragma (List.drop 1 (bodyOf (clsS 12 4))) P} := ⟨_,(@sv_cons _ _ _ _ _ _ (@sv_if _ _ _ _ _ _ _ _ _ (@bv_plain _ _ _ _ (@eM _ _ _ _ _ _ _ _ _ 19 ok_TransactionReader_pragma (@eA _ _ _ _ _ _ H.KO 9 (@eL _ _ _ _ ok_TransactionReader_pragma 0 (by rfl) (by rfl) (by decide)) (by decide) (by rfl) (by intro _ ; rfl)) (@lv_cons _ _ _ _ _ _ _ (@eS _ _ _ _ _) (@lv_nil _ _ _) (by intro _; rfl)) _ (by rfl) (by intro _ ; rfl) (by intro _ ; rfl) (by intro _ _ _ h ; cases h <;> rfl)) (by intro _ _ ; rfl)) (@sv_cons _ _ _ _ _ _ (@sv_ret _ _ _ _ _ (@eC _ _ _ _ _ _ _ _ ok_TransactionReader_pragma H.g_Pragma H.k_Pragma (@lv_cons _ _ _ _ _ _ _ (@eL _ _ _ _ ok_TransactionReader_pragma 1 (by rfl) (by rfl) (by decide)) (@lv_cons _ _ _ _ _ _ _ (@eM _ _ _ _ _ _ _ _ _ 26 ok_TransactionReader_pragma (@eL _ _ _ _ ok_TransactionReader_pragma 0 (by rfl) (by rfl) (by decide)) (@lv_nil _ _ _) _ (by rfl) (by intro _ ; rfl) (by intro _ ; rfl) (by intro _ _ _ h ; cases h <;> rfl)) (@lv_nil _ _ _) (by intro _; rfl)) (by intro _; rfl)) (by rfl) (by decide) (by intro _ ; rfl) (by intro _ _ _ h ; cases h <;> rfl))) (@sv_nil _ _)) (@sv_nil _ _)) (@Subtype.property _ _ (D_TransactionReader_pragma_1 H)))⟩
noncomputable def D_TransactionReader_pragma {g : GW} (H : Facts g) : {P : PTS // SVs g fi_TransactionReader_pragma (bodyOf (clsS 12 4)) P} := ⟨_,(@sv_cons _ _ _ _ _ _ (@sv_asg _ _ _ _ _ _ _ 1 ok_TransactionReader_pragma rfl rfl (@eM _ _ _ _ _ _ _ _ _ 21 ok_TransactionReader_pragma (@eA _ _ _ _ _ _ H.KO 9 (@eL _ _ _ _ ok_TransactionReader_pragma 0 (by rfl) (by rfl) (by decide)) (by decide) (by rfl) (by intro _ ; rfl)) (@lv_nil _ _ _) _ (by rfl) (by intro _ ; rfl) (by intro _ ; rfl) (by intro _ _ _ h ; cases h <;> rfl)) (by intro _ ; rfl)) (@Subtype.property _ _ (D_TransactionReader_pragma_2 H)))⟩
noncomputable def D_TransactionReader_setting_0 {g : GW} (H : Facts g) : {P : PTS // SVs g fi_TransactionReader_setting (List.drop 2 (bodyOf (clsS 12 5))) P} := ⟨_,(@sv_cons _ _ _ _ _ _ (@sv_if _ _ _ _ _ _ _ _ _ (@bv_cmp _ _ _ _ _ _ _ _ (@eA _ _ _ _ _ _ H.KO 0 (@eM _ _ _ _ _ _ _ _ _ 14 ok_TransactionReader_setting (@eA _ _ _ _ _ _ H.KO 9 (@eL _ _ _ _ ok_TransactionReader_setting 0 (by rfl) (by rfl) (by decide)) (by decide) (by rfl) (by intro _ ; rfl)) (@lv_nil _ _ _) _ (by rfl) (by intro _ ; rfl) (by intro _ ; rfl) (by intro _ _ _ h ; cases h <;> rfl)) (by decide) (by rfl) (by intro _ ; rfl)) (@eS _ _ _ _ _) (by rfl)) (@sv_cons _ _ _ _ _ _ (@sv_expr _ _ _ _ _ (@eM _ _ _ _ _ _ _ _ _ 5 ok_TransactionReader_setting (@eA _ _ _ _ _ _ H.KO 9 (@eL _ _ _ _ ok_TransactionReader_setting 0 (by rfl) (by rfl) (by decide)) (by decide) (by rfl) (by intro _ ; rfl)) (@lv_cons _ _ _ _ _ _ _ (@eS _ _ _ _ _) (@lv_nil _ _ _) (by intro _; rfl)) _ (by rfl) (by intro _ ; rfl) (by intro _ ; rfl) (by intro _ _ _ h ; cases h <;> rfl)) ok_TransactionReader_setting (by intro _ ; rfl)) (@sv_nil _ _)) (@sv_nil _ _)) (@sv_cons _ _ _ _ _ _ (@sv_ret _ _ _ _ _ (@ev_bin _ _ _ _ _ _ _ _ (@eL _ _ _ _ ok_TransactionReader_setting 1 (by rfl) (by rfl) (by decide)) (@eA _ _ _ _ _ _ H.KO 2 (@eM _ _ _ _ _ _ _ _ _ 15 ok_TransactionReader_setting (@eA _ _ _ _ _ _ H.KO 9 (@eL _ _ _ _ ok_TransactionReader_setting 0 (by rfl) (by rfl) (by decide)) (by decide) (by rfl) (by intro _ ; rfl)) (@lv_nil _ _ _) _ (by rfl) (by intro _ ; rfl) (by intro _ ; rfl) (by intro _ _ _ h ; cases h <;> rfl)) (by decide) (by rfl) (by intro _ ; rfl)))) (@sv_nil _ _)))⟩
noncomputable def D_TransactionReader_setting {g : GW} (H : Facts g) : {P : PTS // SVs g fi_TransactionReader_setting (bodyOf (clsS 12 5)) P} := ⟨_,(@sv_cons _ _ _ _ _ _ (@sv_if _ _ _ _ _ _ _ _ _ (@bv_cmp _ _ _ _ _ _ _ _ (@eA _ _ _ _ _ _ H.KO 0 (@eM _ _ _ _ _ _ _ _ _ 14 ok_TransactionReader_setting (@eA _ _ _ _ _ _ H.KO 9 (@eL _ _ _ _ ok_TransactionReader_setting 0 (by rfl) (by rfl) (by decide)) (by decide) (by rfl) (by intro _ ; rfl)) (@lv_nil _ _ _) _ (by rfl) (by intro _ ; rfl) (by intro _ ; rfl) (by intro _ _ _ h ; cases h <;> rfl)) (by decide) (by rfl) (by intro _ ; rfl)) (@ev_tup _ _ _ _ _ _ (@lv_cons _ _ _ _ _ _ _ (@eS _ _ _ _ _) (@lv_cons _ _ _ _ _ _ _ (@eS _ _ _ _ _) (@lv_nil _ _ _) (by intro _; rfl)) (by intro _; rfl))) (by rfl)) (@sv_cons _ _ _ _ _ _ (@sv_ret _ _ _ _ _ (@eA _ _ _ _ _ _ H.KO 2 (@eM _ _ _ _ _ _ _ _ _ 15 ok_TransactionReader_setting (@eA _ _ _ _ _ _ H.KO 9 (@eL _ _ _ _ ok_TransactionReader_setting 0 (by rfl) (by rfl) (by decide)) (by decide) (by rfl) (by intro _ ; rfl)) (@lv_nil _ _ _) _ (by rfl) (by intro _ ; rfl) (by intro _ ; rfl) (by intro _ _ _ h ; cases h <;> rfl)) (by decide) (by rfl) (by intro _ ; rfl))) (@sv_nil _ _)) (@sv_nil _ _)) (@sv_cons _ _ _ _ _ _ (@sv_asg _ _ _ _ _ _ _ 1 ok_TransactionReader_setting rfl rfl (@ev_ifexp _ _ _ _ _ _ _ _ _ (@bv_plain _ _ _ _ (@eM _ _ _ _ _ _ _ _ _ 19 ok_TransactionReader_setting (@eA _ _ _ _ _ _ H.KO 9 (@eL _ _ _ _ ok_TransactionReader_setting 0 (by rfl) (by rfl) (by decide)) (by decide) (by rfl) (by intro _ ; rfl)) (@lv_cons _ _ _ _ _ _ _ (@eS _ _ _ _ _) (@lv_nil _ _ _) (by intro _; rfl)) _ (by rfl) (by intro _ ; rfl) (by intro _ ; rfl) (by intro _ _ _ h ; cases h <;> rfl)) (by intro _ _ ; rfl)) (@ev_neg _ _ _ _ _ (@eI _ _ _ _ _)) (@eI _ _ _ _ _)) (by intro _ ; rfl)) (@Subtype.property _ _ (D_TransactionReader_setting_0 H))))⟩
noncomputable def D_folded {g : GW} (H : Facts g) : {P : PTS // SVs g fi_folded (bodyOf (topS 31)) P} := ⟨_,(@sv_cons _ _ _ _ _ _ (@sv_if _ _ _ _ _ _ _ _ _ (@bv_plain _ _ _ _ (@ev_strM _ _ _ _ _ _ _ _ _ .isascii rfl (@eL _ _ _ _ ok_folded 0 (by rfl) (by rfl) (by decide)) (@lv_nil _ _ _) _ (by intro _ ; rfl) (by intro _ ; rfl) (by intro _ _ _ h ; cases h <;> rfl)) (by intro _ _ ; rfl)) (@sv_cons _ _ _ _ _ _ (@sv_ret _ _ _ _ _ (@ev_strM _ _ _ _ _ _ _ _ _ .upper rfl (@eL _ _ _ _ ok_folded 0 (by rfl) (by rfl) (by decide)) (@lv_nil _ _ _) _ (by intro _ ; rfl) (by intro _ ; rfl) (by intro _ _ _ h ; cases h <;> rfl))) (@sv_nil _ _)) (@sv_nil _ _)) (@sv_cons _ _ _ _ _ _ (@sv_ret _ _ _ _ _ (@ev_no _ _ _)) (@sv_nil _ _)))⟩
noncomputable def D_begins_name {g : GW} (H : Facts g) : {P : PTS // SVs g fi_begins_name (bodyOf (topS 32)) P} := ⟨_,(@sv_cons _ _ _ _ _ _ (@sv_ret _ _ _ _ _ (@ev_or _ _ _ _ _ _ _ _ (@ev_cmp _ _ _ _ _ _ _ _ (@eL _ _ _ _ ok_begins_name 0 (by rfl) (by rfl) (by decide)) (@eT _ _ _ _ _ _ ok_begins_name H.g_LETTERS (by rfl) (by rfl) (by decide)) (by rfl)) (@ev_one _ _ _ _ _ _ (@ev_cmp _ _ _ _ _ _ _ _ (@eB _ _ _ _ _ _ _ _ .ord H.IO ok_begins_name H.b_ord bb_ord (@lv_cons _ _ _ _ _ _ _ (@eL _ _ _ _ ok_begins_name 0 (by rfl) (by rfl) (by decide)) (@lv_nil _ _ _) (by intro _; rfl)) (by rfl) (by decide) (by decide) (by intro _ ; rfl) (by intro _ ; rfl)) (@eI _ _ _ _ _) (by rfl))))) (@sv_nil _ _))⟩
noncomputable def D_goes_on_name {g : GW} (H : Facts g) : {P : PTS // SVs g fi_goes_on_name (bodyOf (topS 33)) P} := ⟨_,(@sv_cons _ _ _ _ _ _ (@sv_ret _ _ _ _ _ (@ev_or _ _ _ _ _ _ _ _ (@ev_cmp _ _ _ _ _ _ _ _ (@eL _ _ _ _ ok_goes_on_name 0 (by rfl) (by rfl) (by decide)) (@eT _ _ _ _ _ _ ok_goes_on_name H.g_NAME_SIGNS (by rfl) (by rfl) (by decide)) (by rfl)) (@ev_one _ _ _ _ _ _ (@ev_cmp _ _ _ _ _ _ _ _ (@eB _ _ _ _ _ _ _ _ .ord H.IO ok_goes_on_name H.b_ord bb_ord (@lv_cons _ _ _ _ _ _ _ (@eL _ _ _ _ ok_goes_on_name 0 (by rfl) (by rfl) (by decide)) (@lv_nil _ _ _) (by intro _; rfl)) (by rfl) (by decide) (by decide) (by intro _ ; rfl) (by intro _ ; rfl)) (@eI _ _ _ _ _) (by rfl))))) (@sv_nil _ _))⟩
noncomputable def D_Word_init {g : GW} (H : Facts g) : {P : PTS // SVs g fi_Word_init (bodyOf (clsS 34 0)) P} := ⟨_,(@sv_cons _ _ _ _ _ _ (@sv_attr _ _ _ _ _ _ _ _ _ 0 H.KO (by decide) rfl (@eL _ _ _ _ ok_Word_init 0 (by rfl) (by rfl) (by decide)) (@eL _ _ _ _ ok_Word_init 1 (by rfl) (by rfl) (by decide)) (by intro _ ; rfl)) (@sv_cons _ _ _ _ _ _ (@sv_attr _ _ _ _ _ _ _ _ _ 1 H.KO (by decide) rfl (@eL _ _ _ _ ok_Word_init 0 (by rfl) (by rfl) (by decide)) (@eL _ _ _ _ ok_Word_init 2 (by rfl) (by rfl) (by decide)) (by intro _ ; rfl)) (@sv_cons _ _ _ _ _ _ (@sv_attr _ _ _ _ _ _ _ _ _ 2 H.KO (by decide) rfl (@eL _ _ _ _ ok_Word_init 0 (by rfl) (by rfl) (by decide)) (@eL _ _ _ _ ok_Word_init 3 (by rfl) (by rfl) (by decide)) (by intro _ ; rfl)) (@sv_cons _ _ _ _ _ _ (@sv_attr _ _ _ _ _ _ _ _ _ 3 H.KO (by decide) rfl (@eL _ _ _ _ ok_Word_init 0 (by rfl) (by rfl) (by decide)) (@eL _ _ _ _ ok_Word_init 4 (by rfl) (by rfl) (by decide)) (by intro _ ; rfl)) (@sv_nil _ _)))))⟩
noncomputable def D_Word_is_sign {g : GW} (H : Facts g) : {P : PTS // SVs g fi_Word_is_sign (bodyOf (clsS 34 1)) P} := ⟨_,(@sv_cons _ _ _ _ _ _ (@sv_ret _ _ _ _ _ (@ev_and _ _ _ _ _ _ _ _ (@ev_cmp _ _ _ _ _ _ _ _ (@eA _ _ _ _ _ _ H.KO 0 (@eL _ _ _ _ ok_Word_is_sign 0 (by rfl) (by rfl) (by decide)) (by decide) (by rfl) (by intro _ ; rfl)) (@eS _ _ _ _ _) (by rfl)) (@ev_one _ _ _ _ _ _ (@ev_cmp _ _ _ _ _ _ _ _ (@eA _ _ _ _ _ _ H.KO 1 (@eL _ _ _ _ ok_Word_is_sign 0 (by rfl) (by rfl) (by decide)) (by decide) (by rfl) (by intro _ ; rfl)) (@eL _ _ _ _ ok_Word_is_sign 1 (by rfl) (by rfl) (by decide)) (by rfl))))) (@sv_nil _ _))⟩
noncomputable def D_Word_is_key {g : GW} (H : Facts g) : {P : PTS // SVs g fi_Word_is_key (bodyOf (clsS 34 2)) P} := ⟨_,(@sv_cons _ _ _ _ _ _ (@sv_ret _ _ _ _ _ (@ev_and _ _ _ _ _ _ _ _ (@ev_cmp _ _ _ _ _ _ _ _ (@eA _ _ _ _ _ _ H.KO 0 (@eL _ _ _ _ ok_Word_is_key 0 (by rfl) (by rfl) (by decide)) (by decide) (by rfl) (by intro _ ; rfl)) (@eS _ _ _ _ _) (by rfl)) (@ev_one _ _ _ _ _ _ (@ev_cmp _ _ _ _ _ _ _ _ (@eA _ _ _ _ _ _ H.KO 1 (@eL _ _ _ _ ok_Word_is_key 0 (by rfl) (by rfl) (by decide)) (by decide) (by rfl) (by intro _ ; rfl)) (@eL _ _ _ _ ok_Word_is_key 1 (by rfl) (by rfl) (by decide)) (by rfl))))) (@sv_nil _ _))⟩
noncomputable def D_Word_is_free {g : GW} (H : Facts g) : {P : PTS // SVs g fi_Word_is_free (bodyOf (clsS 34 3)) P} := ⟨_,(@sv_cons _ _ _ _ _ _ (@sv_ret _ _ _ _ _ (@ev_and _ _ _ _ _ _ _ _ (@ev_cmp _ _ _ _ _ _ _ _ (@eA _ _ _ _ _ _ H.KO 0 (@eL _ _ _ _ ok_Word_is_free 0 (by rfl) (by rfl) (by decide)) (by decide) (by rfl) (by intro _ ; rfl)) (@eS _ _ _ _ _) (by rfl)) (@ev_one _ _ _ _ _ _ (@ev_inTop _ _ _ _ _ _ _ _ _ true (@eA _ _ _ _ _ _ H.KO 1 (@eL _ _ _ _ ok_Word_is_free 0 (by rfl) (by rfl) (by decide)) (by decide) (by rfl) (by intro _ ; rfl)) ok_Word_is_free rfl (by decide) H.g_RESERVED H.t_RESERVED)))) (@sv_nil _ _))⟩
noncomputable def D_Scanner_init {g : GW} (H : Facts g) : {P : PTS // SVs g fi_Scanner_init (bodyOf (clsS 35 0)) P} := ⟨_,(@sv_cons _ _ _ _ _ _ (@sv_attr _ _ _ _ _ _ _ _ _ 1 H.KO (by decide) rfl (@eL _ _ _ _ ok_Scanner_init 0 (by rfl) (by rfl) (by decide)) (@eL _ _ _ _ ok_Scanner_init 1 (by rfl) (by rfl) (by decide)) (by intro _ ; rfl)) (@sv_cons _ _ _ _ _ _ (@sv_attr _ _ _ _ _ _ _ _ _ 3 H.KO (by decide) rfl (@eL _ _ _ _ ok_Scanner_init 0 (by rfl) (by rfl) (by decide)) (@eI _ _ _ _ _) (by intro _ ; rfl)) (@sv_cons _ _ _ _ _ _ (@sv_attr _ _ _ _ _ _ _ _ _ 4 H.KO (by decide) rfl (@eL _ _ _ _ ok_Scanner_init 0 (by rfl) (by rfl) (by decide)) (@ev_mlst _ _ _ _ _ (@lv_nil _ _ _)) (by intro _ ; rfl)) (@sv_cons _ _ _ _ _ _ (@sv_attr _ _ _ _ _ _ _ _ _ 5 H.KO (by decide) rfl (@eL _ _ _ _ ok_Scanner_init 0 (by rfl) (by rfl) (by decide)) (@eI _ _ _ _ _) (by intro _ ; rfl)) (@sv_nil _ _)))))⟩
noncomputable def D_Scanner_gather {g : GW} (H : Facts g) : {P : PTS // SVs g fi_Scanner_gather (bodyOf (clsS 35 1)) P} := ⟨_,(@sv_cons _ _ _ _ _ _ (@sv_expr _ _ _ _ _ (@ev_append _ _ _ _ _ _ _ _ _ rfl (@eA _ _ _ _ _ _ H.KO 4 (@eL _ _ _ _ ok_Scanner_gather 0 (by rfl) (by rfl) (by decide)) (by decide) (by rfl) (by intro _ ; rfl)) (@eC _ _ _ _ _ _ _ _ ok_Scanner_gather H.g_Word H.k_Word (@lv_cons _ _ _ _ _ _ _ (@eL _ _ _ _ ok_Scanner_gather 1 (by rfl) (by rfl) (by decide)) (@lv_cons _ _ _ _ _ _ _ (@eL _ _ _ _ ok_Scanner_gather 2 (by rfl) (by rfl) (by decide)) (@lv_cons _ _ _ _ _ _ _ (@eL _ _ _ _ ok_Scanner_gather 3 (by rfl) (by rfl) (by decide)) (@lv_cons _ _ _ _ _ _ _ (@eA _ _ _ _ _ _ H.KO 3 (@eL _ _ _ _ ok_Scanner_gather 0 (by rfl) (by rfl) (by decide)) (by decide) (by rfl) (by intro _ ; rfl)) (@lv_nil _ _ _) (by intro _; rfl)) (by intro _; rfl)) (by intro _; rfl)) (by intro _; rfl)) (by rfl) (by decide) (by intro _ ; rfl) (by intro _ _ _ h ; cases h <;> rfl)) _ (by intro _ ; rfl) (by intro _ ; rfl)) ok_Scanner_gather (by intro _ ; rfl)) (@sv_cons _ _ _ _ _ _ (@sv_attr _ _ _ _ _ _ _ _ _ 3 H.KO (by decide) rfl (@eL _ _ _ _ ok_Scanner_gather 0 (by rfl) (by rfl) (by decide)) (@eL _ _ _ _ ok_Scanner_gather 4 (by rfl) (by rfl) (by decide)) (by intro _ ; rfl)) (@sv_nil _ _)))⟩
noncomputable def D_Scanner_run_0 {g : GW} (H : Facts g) : {P : PTS // SVs g fi_Scanner_run (elseB (stA (elseB (stA (loopB (stA (bodyOf (clsS 35 3)) 1)) 1)) 0)) P} := ⟨_,(@sv_cons _ _ _ _ _ _ (@sv_if _ _ _ _ _ _ _ _ _ (@bv_cmp _ _ _ _ _ _ _ _ (@eL _ _ _ _ ok_Scanner_run 2 (by rfl) (by rfl) (by decide)) (@eT _ _ _ _ _ _ ok_Scanner_run H.g_FIGURES (by rfl) (by rfl) (by decide)) (by rfl)) (@sv_cons _ _ _ _ _ _ (@sv_expr _ _ _ _ _ (@eM _ _ _ _ _ _ _ _ _ 11 ok_Scanner_run (@eL _ _ _ _ ok_Scanner_run 0 (by rfl) (by rfl) (by decide)) (@lv_nil _ _ _) _ (by rfl) (by intro _ ; rfl) (by intro _ ; rfl) (by intro _ _ _ h ; cases h <;> rfl)) ok_Scanner_run (by intro _ ; rfl)) (@sv_nil _ _)) (@sv_cons _ _ _ _ _ _ (@sv_if _ _ _ _ _ _ _ _ _ (@bv_cmp _ _ _ _ _ _ _ _ (@eL _ _ _ _ ok_Scanner_run 2 (by rfl) (by rfl) (by decide)) (@eT _ _ _ _ _ _ ok_Scanner_run H.g_QUOTES (by rfl) (by rfl) (by decide)) (by rfl)) (@sv_cons _ _ _ _ _ _ (@sv_expr _ _ _ _ _ (@eM _ _ _ _ _ _ _ _ _ 10 ok_Scanner_run (@eL _ _ _ _ ok_Scanner_run 0 (by rfl) (by rfl) (by decide)) (@lv_cons _ _ _ _ _ _ _ (@eL _ _ _ _ ok_Scanner_run 2 (by rfl) (by rfl) (by decide)) (@lv_nil _ _ _) (by intro _; rfl)) _ (by rfl) (by intro _ ; rfl) (by intro _ ; rfl) (by intro _ _ _ h ; cases h <;> rfl)) ok_Scanner_run (by intro _ ; rfl)) (@sv_nil _ _)) (@sv_cons _ _ _ _ _ _ (@sv_expr _ _ _ _ _ (@eM _ _ _ _ _ _ _ _ _ 13 ok_Scanner_run (@eL _ _ _ _ ok_Scanner_run 0 (by rfl) (by rfl) (by decide)) (@lv_cons _ _ _ _ _ _ _ (@eL _ _ _ _ ok_Scanner_run 2 (by rfl) (by rfl) (by decide)) (@lv_nil _ _ _) (by intro _; rfl)) _ (by rfl) (by intro _ ; rfl) (by intro _ ; rfl) (by intro _ _ _ h ; cases h <;> rfl)) ok_Scanner_run (by intro _ ; rfl)) (@sv_nil _ _))) (@sv_nil _ _))) (@sv_nil _ _))⟩
noncomputable def D_Scanner_run_1 {g : GW} (H : Facts g) : {P : PTS // SVs g fi_Scanner_run (elseB (stA (loopB (stA (bodyOf (clsS 35 3)) 1)) 1)) P} := ⟨_,(@sv_cons _ _ _ _ _ _ (@sv_if _ _ _ _ _ _ _ _ _ (@bv_or _ _ _ _ _ _ _ (@bv_cmp _ _ _ _ _ _ _ _ (@eL _ _ _ _ ok_Scanner_run 2 (by rfl) (by rfl) (by decide)) (@eT _ _ _ _ _ _ ok_Scanner_run H.g_LETTERS (by rfl) (by rfl) (by decide)) (by rfl)) (@bv_or _ _ _ _ _ _ _ (@bv_cmp _ _ _ _ _ _ _ _ (@eB _ _ _ _ _ _ _ _ .ord H.IO ok_Scanner_run H.b_ord bb_ord (@lv_cons _ _ _ _ _ _ _ (@eL _ _ _ _ ok_Scanner_run 2 (by rfl) (by rfl) (by decide)) (@lv_nil _ _ _) (by intro _; rfl)) (by rfl) (by decide) (by decide) (by intro _ ; rfl) (by intro _ ; rfl)) (@eI _ _ _ _ _) (by rfl)) (@bv_or_nil _ _ _) (by intro _ _ _ ; rfl)) (by intro _ _ _ ; rfl)) (@sv_cons _ _ _ _ _ _ (@sv_expr _ _ _ _ _ (@eM _ _ _ _ _ _ _ _ _ 8 ok_Scanner_run (@eL _ _ _ _ ok_Scanner_run 0 (by rfl) (by rfl) (by decide)) (@lv_cons _ _ _ _ _ _ _ (@eL _ _ _ _ ok_Scanner_run 2 (by rfl) (by rfl) (by decide)) (@lv_nil _ _ _) (by intro _; rfl)) _ (by rfl) (by intro _ ; rfl) (by intro _ ; rfl) (by intro _ _ _ h ; cases h <;> rfl)) ok_Scanner_run (by intro _ ; rfl)) (@sv_nil _ _)) (@Subtype.property _ _ (D_Scanner_run_0 H))) (@sv_nil _ _))⟩
noncomputable def D_Scanner_run_2 {g : GW} (H : Facts g) : {P : PTS // SVs g fi_Scanner_run (loopB (stA (bodyOf (clsS 35 3)) 1)) P} := ⟨_,(@sv_cons _ _ _ _ _ _ (@sv_asg _ _ _ _ _ _ _ 2 ok_Scanner_run rfl rfl (@ev_sub _ _ _ _ _ _ _ (@eA _ _ _ _ _ _ H.KO 1 (@eL _ _ _ _ ok_Scanner_run 0 (by rfl) (by rfl) (by decide)) (by decide) (by rfl) (by intro _ ; rfl)) (@eA _ _ _ _ _ _ H.KO 3 (@eL _ _ _ _ ok_Scanner_run 0 (by rfl) (by rfl) (by decide)) (by decide) (by rfl) (by intro _ ; rfl)) (by intro _ _ ; rfl)) (by intro _ ; rfl)) (@sv_cons _ _ _ _ _ _ (@sv_if _ _ _ _ _ _ _ _ _ (@bv_cmp _ _ _ _ _ _ _ _ (@eL _ _ _ _ ok_Scanner_run 2 (by rfl) (by rfl) (by decide)) (@eT _ _ _ _ _ _ ok_Scanner_run H.g_BLANKS (by rfl) (by rfl) (by decide)) (by rfl)) (@sv_cons _ _ _ _ _ _ (@sv_attr _ _ _ _ _ _ _ _ _ 3 H.KO (by decide) rfl (@eL _ _ _ _ ok_Scanner_run 0 (by rfl) (by rfl) (by decide)) (@ev_bin _ _ _ _ _ _ _ _ (@eA _ _ _ _ _ _ H.KO 3 (@eL _ _ _ _ ok_Scanner_run 0 (by rfl) (by rfl) (by decide)) (by decide) (by rfl) (by intro _ ; rfl)) (@eI _ _ _ _ _)) (by intro _ ; rfl)) (@sv_nil _ _)) (@Subtype.property _ _ (D_Scanner_run_1 H))) (@sv_nil _ _)))⟩
noncomputable def D_Scanner_run_3 {g : GW} (H : Facts g) : {P : PTS // SVs g fi_Scanner_run (List.drop 1 (bodyOf (clsS 35 3))) P} := ⟨_,(@sv_cons _ _ _ _ _ _ (@sv_while _ _ _ _ _ _ _ (@bv_cmp _ _ _ _ _ _ _ _ (@eA _ _ _ _ _ _ H.KO 3 (@eL _ _ _ _ ok_Scanner_run 0 (by rfl) (by rfl) (by decide)) (by decide) (by rfl) (by intro _ ; rfl)) (@eL _ _ _ _ ok_Scanner_run 1 (by rfl) (by rfl) (by decide)) (by rfl)) (@Subtype.property _ _ (D_Scanner_run_2 H))) (@sv_cons _ _ _ _ _ _ (@sv_expr _ _ _ _ _ (@eM _ _ _ _ _ _ _ _ _ 4 ok_Scanner_run (@eL _ _ _ _ ok_Scanner_run 0 (by rfl) (by rfl) (by decide)) (@lv_cons _ _ _ _ _ _ _ (@eS _ _ _ _ _) (@lv_cons _ _ _ _ _ _ _ (@eS _ _ _ _ _) (@lv_cons _ _ _ _ _ _ _ (@ev_none _ _ _ _) (@lv_cons _ _ _ _ _ _ _ (@eA _ _ _ _ _ _ H.KO 3 (@eL _ _ _ _ ok_Scanner_run 0 (by rfl) (by rfl) (by decide)) (by decide) (by rfl) (by intro _ ; rfl)) (@lv_nil _ _ _) (by intro _; rfl)) (by intro _; rfl)) (by intro _; rfl)) (by intro _; rfl)) _ (by rfl) (by intro _ ; rfl) (by intro _ ; rfl) (by intro _ _ _ h ; cases h <;> rfl)) ok_Scanner_run (by intro _ ; rfl)) (@sv_cons _ _ _ _ _ _ (@sv_ret _ _ _ _ _ (@eA _ _ _ _ _ _ H.KO 4 (@eL _ _ _ _ ok_Scanner_run 0 (by rfl) (by rfl) (by decide)) (by decide) (by rfl) (by intro _ ; rfl))) (@sv_nil _ _))))⟩
noncomputable def D_Scanner_run {g : GW} (H : Facts g) : {P : PTS // SVs g fi_Scanner_run (bodyOf (clsS 35 3)) P} := ⟨_,(@sv_cons _ _ _ _ _ _ (@sv_asg _ _ _ _ _ _ _ 1 ok_Scanner_run rfl rfl (@eB _ _ _ _ _ _ _ _ .len H.IO ok_Scanner_run H.b_len bb_len (@lv_cons _ _ _ _ _ _ _ (@eA _ _ _ _ _ _ H.KO 1 (@eL _ _ _ _ ok_Scanner_run 0 (by rfl) (by rfl) (by decide)) (by decide) (by rfl) (by intro _ ; rfl)) (@lv_nil _ _ _) (by intro _; rfl)) (by rfl) (by decide) (by decide) (by intro _ ; rfl) (by intro _ ; rfl)) (by intro _ ; rfl)) (@Subtype.property _ _ (D_Scanner_run_3 H)))⟩
noncomputable def D_Scanner_end_of_0 {g : GW} (H : Facts g) : {P : PTS // SVs g fi_Scanner_end_of (List.drop 1 (bodyOf (clsS 35 4))) P} := ⟨_,(@sv_cons _ _ _ _ _ _ (@sv_while _ _ _ _ _ _ _ (@bv_and _ _ _ _ _ _ _ (@bv_cmp _ _ _ _ _ _ _ _ (@eL _ _ _ _ ok_Scanner_end_of 2 (by rfl) (by rfl) (by decide)) (@eB _ _ _ _ _ _ _ _ .len H.IO ok_Scanner_end_of H.b_len bb_len (@lv_cons _ _ _ _ _ _ _ (@eL _ _ _ _ ok_Scanner_end_of 3 (by rfl) (by rfl) (by decide)) (@lv_nil _ _ _) (by intro _; rfl)) (by rfl) (by decide) (by decide) (by intro _ ; rfl) (by intro _ ; rfl)) (by rfl)) (@bv_and _ _ _ _ _ _ _ (@bv_cmp _ _ _ _ _ _ _ _ (@ev_sub _ _ _ _ _ _ _ (@eL _ _ _ _ ok_Scanner_end_of 3 (by rfl) (by rfl) (by decide)) (@eL _ _ _ _ ok_Scanner_end_of 2 (by rfl) (by rfl) (by decide)) (by intro _ _ ; rfl)) (@eL _ _ _ _ ok_Scanner_end_of 1 (by rfl) (by rfl) (by decide)) (by rfl)) (@bv_and_nil _ _ _) (by intro _ _ _ ; rfl)) (by intro _ _ _ ; rfl)) (@sv_cons _ _ _ _ _ _ (@sv_asg _ _ _ _ _ _ _ 2 ok_Scanner_end_of rfl rfl (@ev_bin _ _ _ _ _ _ _ _ (@eL _ _ _ _ ok_Scanner_end_of 2 (by rfl) (by rfl) (by decide)) (@eI _ _ _ _ _)) (by intro _ ; rfl)) (@sv_nil _ _))) (@sv_cons _ _ _ _ _ _ (@sv_ret _ _ _ _ _ (@eL _ _ _ _ ok_Scanner_end_of 2 (by rfl) (by rfl) (by decide))) (@sv_nil _ _)))⟩
noncomputable def D_Scanner_end_of {g : GW} (H : Facts g) : {P : PTS // SVs g fi_Scanner_end_of (bodyOf (clsS 35 4)) P} := ⟨_,(@sv_cons _ _ _ _ _ _ (@sv_asg _ _ _ _ _ _ _ 3 ok_Scanner_end_of rfl rfl (@eA _ _ _ _ _ _ H.KO 1 (@eL _ _ _ _ ok_Scanner_end_of 0 (by rfl) (by rfl) (by decide)) (by decide) (by rfl) (by intro _ ; rfl)) (by intro _ ; rfl)) (@Subtype.property _ _ (D_Scanner_end_of_0 H)))⟩
noncomputable def D_Scanner_bare_0 {g : GW} (H : Facts g) : {P : PTS // SVs g fi_Scanner_bare (List.drop 5 (bodyOf (clsS 35 5))) P} := ⟨_,(@sv_cons _ _ _ _ _ _ (@sv_expr _ _ _ _ _ (@eM _ _ _ _ _ _ _ _ _ 4 ok_Scanner_bare (@eL _ _ _ _ ok_Scanner_bare 0 (by rfl) (by rfl) (by decide)) (@lv_cons _ _ _ _ _ _ _ (@eS _ _ _ _ _) (@lv_cons _ _ _ _ _ _ _ (@eC _ _ _ _ _ _ _ _ ok_Scanner_bare H.g_folded H.k_folded (@lv_cons _ _ _ _ _ _ _ (@eL _ _ _ _ ok_Scanner_bare 4 (by rfl) (by rfl) (by decide)) (@lv_nil _ _ _) (by intro _; rfl)) (by rfl) (by decide) (by intro _ ; rfl) (by intro _ _ _ h ; cases h <;> rfl)) (@lv_cons _ _ _ _ _ _ _ (@eL _ _ _ _ ok_Scanner_bare 4 (by rfl) (by rfl) (by decide)) (@lv_cons _ _ _ _ _ _ _ (@eL _ _ _ _ ok_Scanner_bare 3 (by rfl) (by rfl) (by decide)) (@lv_nil _ _ _) (by intro _; rfl)) (by intro _; rfl)) (by intro _; rfl)) (by intro _; rfl)) _ (by rfl) (by intro _ ; rfl) (by intro _ ; rfl) (by intro _ _ _ h ; cases h <;> rfl)) ok_Scanner_bare (by intro _ ; rfl)) (@sv_nil _ _))⟩
noncomputable def D_Scanner_bare_1 {g : GW} (H : Facts g) : {P : PTS // SVs g fi_Scanner_bare (List.drop 3 (bodyOf (clsS 35 5))) P} := ⟨_,(@sv_cons _ _ _ _ _ _ (@sv_while _ _ _ _ _ _ _ (@bv_and _ _ _ _ _ _ _ (@bv_cmp _ _ _ _ _ _ _ _ (@eL _ _ _ _ ok_Scanner_bare 3 (by rfl) (by rfl) (by decide)) (@eB _ _ _ _ _ _ _ _ .len H.IO ok_Scanner_bare H.b_len bb_len (@lv_cons _ _ _ _ _ _ _ (@eL _ _ _ _ ok_Scanner_bare 2 (by rfl) (by rfl) (by decide)) (@lv_nil _ _ _) (by intro _; rfl)) (by rfl) (by decide) (by decide) (by intro _ ; rfl) (by intro _ ; rfl)) (by rfl)) (@bv_and _ _ _ _ _ _ _ (@bv_or _ _ _ _ _ _ _ (@bv_cmp _ _ _ _ _ _ _ _ (@ev_sub _ _ _ _ _ _ _ (@eL _ _ _ _ ok_Scanner_bare 2 (by rfl) (by rfl) (by decide)) (@eL _ _ _ _ ok_Scanner_bare 3 (by rfl) (by rfl) (by decide)) (by intro _ _ ; rfl)) (@eT _ _ _ _ _ _ ok_Scanner_bare H.g_NAME_SIGNS (by rfl) (by rfl) (by decide)) (by rfl)) (@bv_or _ _ _ _ _ _ _ (@bv_cmp _ _ _ _ _ _ _ _ (@eB _ _ _ _ _ _ _ _ .ord H.IO ok_Scanner_bare H.b_ord bb_ord (@lv_cons _ _ _ _ _ _ _ (@ev_sub _ _ _ _ _ _ _ (@eL _ _ _ _ ok_Scanner_bare 2 (by rfl) (by rfl) (by decide)) (@eL _ _ _ _ ok_Scanner_bare 3 (by rfl) (by rfl) (by decide)) (by intro _ _ ; rfl)) (@lv_nil _ _ _) (by intro _; rfl)) (by rfl) (by decide) (by decide) (by intro _ ; rfl) (by intro _ ; rfl)) (@eI _ _ _ _ _) (by rfl)) (@bv_or_nil _ _ _) (by intro _ _ _ ; rfl)) (by intro _ _ _ ; rfl)) (@bv_and_nil _ _ _) (by intro _ _ _ ; rfl)) (by intro _ _ _ ; rfl)) (@sv_cons _ _ _ _ _ _ (@sv_asg _ _ _ _ _ _ _ 3 ok_Scanner_bare rfl rfl (@ev_bin _ _ _ _ _ _ _ _ (@eL _ _ _ _ ok_Scanner_bare 3 (by rfl) (by rfl) (by decide)) (@eI _ _ _ _ _)) (by intro _ ; rfl)) (@sv_nil _ _))) (@sv_cons _ _ _ _ _ _ (@sv_asg _ _ _ _ _ _ _ 4 ok_Scanner_bare rfl rfl (@ev_slice _ _ _ _ _ _ _ _ _ _ (@eL _ _ _ _ ok_Scanner_bare 2 (by rfl) (by rfl) (by decide)) (@eA _ _ _ _ _ _ H.KO 3 (@eL _ _ _ _ ok_Scanner_bare 0 (by rfl) (by rfl) (by decide)) (by decide) (by rfl) (by intro _ ; rfl)) (@eL _ _ _ _ ok_Scanner_bare 3 (by rfl) (by rfl) (by decide))) (by intro _ ; rfl)) (@Subtype.property _ _ (D_Scanner_bare_0 H))))⟩
noncomputable def D_Scanner_bare {g : GW} (H : Facts g) : {P : PTS // SVs g fi_Scanner_bare (bodyOf (clsS 35 5)) P} := ⟨_,(@sv_cons _ _ _ _ _ _ (@sv_asg _ _ _ _ _ _ _ 2 ok_Scanner_bare rfl rfl (@eA _ _ _ _ _ _ H.KO 1 (@eL _ _ _ _ ok_Scanner_bare 0 (by rfl) (by rfl) (by decide)) (by decide) (by rfl) (by intro _ ; rfl)) (by intro _ ; rfl)) (@sv_cons _ _ _ _ _ _ (@sv_asg _ _ _ _ _ _ _ 3 ok_Scanner_bare rfl rfl (@ev_bin _ _ _ _ _ _ _ _ (@eA _ _ _ _ _ _ H.KO 3 (@eL _ _ _ _ ok_Scanner_bare 0 (by rfl) (by rfl) (by decide)) (by decide) (by rfl) (by intro _ ; rfl)) (@eI _ _ _ _ _)) (by intro _ ; rfl)) (@sv_cons _ _ _ _ _ _ (@sv_if _ _ _ _ _ _ _ _ _ (@bv_and _ _ _ _ _ _ _ (@bv_cmp _ _ _ _ _ _ _ _ (@eL _ _ _ _ ok_Scanner_bare 1 (by rfl) (by rfl) (by decide)) (@eS _ _ _ _ _) (by rfl)) (@bv_and _ _ _ _ _ _ _ (@bv_cmp _ _ _ _ _ _ _ _ (@ev_slice _ _ _ _ _ _ _ _ _ _ (@eL _ _ _ _ ok_Scanner_bare 2 (by rfl) (by rfl) (by decide)) (@eL _ _ _ _ ok_Scanner_bare 3 (by rfl) (by rfl) (by decide)) (@ev_bin _ _ _ _ _ _ _ _ (@eL _ _ _ _ ok_Scanner_bare 3 (by rfl) (by rfl) (by decide)) (@eI _ _ _ _ _))) (@eS _ _ _ _ _) (by rfl)) (@bv_and_nil _ _ _) (by intro _ _ _ ; rfl)) (by intro _ _ _ ; rfl)) (@svs_no _ _ _) (@sv_nil _ _)) (@Subtype.property _ _ (D_Scanner_bare_1 H)))))⟩
noncomputable def D_Scanner_closing_0 {g : GW} (H : Facts g) : {P : PTS // SVs g fi_Scanner_closing (loopB (stA (bodyOf (clsS 35 6)) 2)) P} := ⟨_,(@sv_cons _ _ _ _ _ _ (@sv_expr _ _ _ _ _ (@ev_append _ _ _ _ _ _ _ _ _ rfl (@eL _ _ _ _ ok_Scanner_closing 3 (by rfl) (by rfl) (by decide)) (@ev_slice _ _ _ _ _ _ _ _ _ _ (@eA _ _ _ _ _ _ H.KO 1 (@eL _ _ _ _ ok_Scanner_closing 0 (by rfl) (by rfl) (by decide)) (by decide) (by rfl) (by intro _ ; rfl)) (@eL _ _ _ _ ok_Scanner_closing 2 (by rfl) (by rfl) (by decide)) (@ev_bin _ _ _ _ _ _ _ _ (@eL _ _ _ _ ok_Scanner_closing 4 (by rfl) (by rfl) (by decide)) (@eI _ _ _ _ _))) _ (by intro _ ; rfl) (by intro _ ; rfl)) ok_Scanner_closing (by intro _ ; rfl)) (@sv_cons _ _ _ _ _ _ (@sv_asg _ _ _ _ _ _ _ 2 ok_Scanner_closing rfl rfl (@ev_bin _ _ _ _ _ _ _ _ (@eL _ _ _ _ ok_Scanner_closing 4 (by rfl) (by rfl) (by decide)) (@eI _ _ _ _ _)) (by intro _ ; rfl)) (@sv_cons _ _ _ _ _ _ (@sv_asg _ _ _ _ _ _ _ 4 ok_Scanner_closing rfl rfl (@ev_strM _ _ _ _ _ _ _ _ _ .find rfl (@eA _ _ _ _ _ _ H.KO 1 (@eL _ _ _ _ ok_Scanner_closing 0 (by rfl) (by rfl) (by decide)) (by decide) (by rfl) (by intro _ ; rfl)) (@lv_cons _ _ _ _ _ _ _ (@eL _ _ _ _ ok_Scanner_closing 1 (by rfl) (by rfl) (by decide)) (@lv_cons _ _ _ _ _ _ _ (@eL _ _ _ _ ok_Scanner_closing 2 (by rfl) (by rfl) (by decide)) (@lv_nil _ _ _) (by intro _; rfl)) (by intro _; rfl)) _ (by intro _ ; rfl) (by intro _ ; rfl) (by intro _ _ _ h ; cases h <;> rfl)) (by intro _ ; rfl)) (@sv_nil _ _))))⟩
noncomputable def D_Scanner_closing_1 {g : GW} (H : Facts g) : {P : PTS // SVs g fi_Scanner_closing (List.drop 4 (bodyOf (clsS 35 6))) P} := ⟨_,(@sv_cons _ _ _ _ _ _ (@sv_expr _ _ _ _ _ (@ev_append _ _ _ _ _ _ _ _ _ rfl (@eL _ _ _ _ ok_Scanner_closing 3 (by rfl) (by rfl) (by decide)) (@ev_slice _ _ _ _ _ _ _ _ _ _ (@eA _ _ _ _ _ _ H.KO 1 (@eL _ _ _ _ ok_Scanner_closing 0 (by rfl) (by rfl) (by decide)) (by decide) (by rfl) (by intro _ ; rfl)) (@eL _ _ _ _ ok_Scanner_closing 2 (by rfl) (by rfl) (by decide)) (@eL _ _ _ _ ok_Scanner_closing 4 (by rfl) (by rfl) (by decide))) _ (by intro _ ; rfl) (by intro _ ; rfl)) ok_Scanner_closing (by intro _ ; rfl)) (@sv_cons _ _ _ _ _ _ (@sv_ret _ _ _ _ _ (@ev_tup _ _ _ _ _ _ (@lv_cons _ _ _ _ _ _ _ (@ev_strM _ _ _ _ _ _ _ _ _ .join rfl (@eS _ _ _ _ _) (@lv_cons _ _ _ _ _ _ _ (@eL _ _ _ _ ok_Scanner_closing 3 (by rfl) (by rfl) (by decide)) (@lv_nil _ _ _) (by intro _; rfl)) _ (by intro _ ; rfl) (by intro _ ; rfl) (by intro _ _ _ h ; cases h <;> rfl)) (@lv_cons _ _ _ _ _ _ _ (@ev_bin _ _ _ _ _ _ _ _ (@eL _ _ _ _ ok_Scanner_closing 4 (by rfl) (by rfl) (by decide)) (@eI _ _ _ _ _)) (@lv_nil _ _ _) (by intro _; rfl)) (by intro _; rfl)))) (@sv_nil _ _)))⟩
noncomputable def D_Scanner_closing_2 {g : GW} (H : Facts g) : {P : PTS // SVs g fi_Scanner_closing (List.drop 2 (bodyOf (clsS 35 6))) P} := ⟨_,(@sv_cons _ _ _ _ _ _ (@sv_while _ _ _ _ _ _ _ (@bv_and _ _ _ _ _ _ _ (@bv_cmp _ _ _ _ _ _ _ _ (@eL _ _ _ _ ok_Scanner_closing 4 (by rfl) (by rfl) (by decide)) (@eI _ _ _ _ _) (by rfl)) (@bv_and _ _ _ _ _ _ _ (@bv_cmp _ _ _ _ _ _ _ _ (@ev_slice _ _ _ _ _ _ _ _ _ _ (@eA _ _ _ _ _ _ H.KO 1 (@eL _ _ _ _ ok_Scanner_closing 0 (by rfl) (by rfl) (by decide)) (by decide) (by rfl) (by intro _ ; rfl)) (@ev_bin _ _ _ _ _ _ _ _ (@eL _ _ _ _ ok_Scanner_closing 4 (by rfl) (by rfl) (by decide)) (@eI _ _ _ _ _)) (@ev_bin _ _ _ _ _ _ _ _ (@eL _ _ _ _ ok_Scanner_closing 4 (by rfl) (by rfl) (by decide)) (@eI _ _ _ _ _))) (@eL _ _ _ _ ok_Scanner_closing 1 (by rfl) (by rfl) (by decide)) (by rfl)) (@bv_and_nil _ _ _) (by intro _ _ _ ; rfl)) (by intro _ _ _ ; rfl)) (@Subtype.property _ _ (D_Scanner_closing_0 H))) (@sv_cons _ _ _ _ _ _ (@sv_if _ _ _ _ _ _ _ _ _ (@bv_cmp _ _ _ _ _ _ _ _ (@eL _ _ _ _ ok_Scanner_closing 4 (by rfl) (by rfl) (by decide)) (@eI _ _ _ _ _) (by rfl)) (@svs_no _ _ _) (@sv_nil _ _)) (@Subtype.property _ _ (D_Scanner_closing_1 H))))⟩
noncomputable def D_Scanner_closing {g : GW} (H : Facts g) : {P : PTS // SVs g fi_Scanner_closing (bodyOf (clsS 35 6)) P} := ⟨_,(@sv_cons _ _ _ _ _ _ (@sv_asg _ _ _ _ _ _ _ 3 ok_Scanner_closing rfl rfl (@ev_mlst _ _ _ _ _ (@lv_nil _ _ _)) (by intro _ ; rfl)) (@sv_cons _ _ _ _ _ _ (@sv_asg _ _ _ _ _ _ _ 4 ok_Scanner_closing rfl rfl (@ev_strM _ _ _ _ _ _ _ _ _ .find rfl (@eA _ _ _ _ _ _ H.KO 1 (@eL _ _ _ _ ok_Scanner_closing 0 (by rfl) (by rfl) (by decide)) (by decide) (by rfl) (by intro _ ; rfl)) (@lv_cons _ _ _ _ _ _ _ (@eL _ _ _ _ ok_Scanner_closing 1 (by rfl) (by rfl) (by decide)) (@lv_cons _ _ _ _ _ _ _ (@eL _ _ _ _ ok_Scanner_closing 2 (by rfl) (by rfl) (by decide)) (@lv_nil _ _ _) (by intro _; rfl)) (by intro _; rfl)) _ (by intro _ ; rfl) (by intro _ ; rfl) (by intro _ _ _ h ; cases h <;> rfl)) (by intro _ ; rfl)) (@Subtype.property _ _ (D_Scanner_closing_2 H))))⟩
noncomputable def D_Scanner_quoted_word_0 {g : GW} (H : Facts g) : {P : PTS // SVs g fi_Scanner_quoted_word (List.drop 2 (thenB (stA (bodyOf (clsS 35 7)) 0))) P} := ⟨_,(@sv_cons _ _ _ _ _ _ (@sv_expr _ _ _ _ _ (@eM _ _ _ _ _ _ _ _ _ 4 ok_Scanner_quoted_word (@eL _ _ _ _ ok_Scanner_quoted_word 0 (by rfl) (by rfl) (by decide)) (@lv_cons _ _ _ _ _ _ _ (@eS _ _ _ _ _) (@lv_cons _ _ _ _ _ _ _ (@eS _ _ _ _ _) (@lv_cons _ _ _ _ _ _ _ (@ev_slice _ _ _ _ _ _ _ _ _ _ (@eA _ _ _ _ _ _ H.KO 1 (@eL _ _ _ _ ok_Scanner_quoted_word 0 (by rfl) (by rfl) (by decide)) (by decide) (by rfl) (by intro _ ; rfl)) (@ev_bin _ _ _ _ _ _ _ _ (@eA _ _ _ _ _ _ H.KO 3 (@eL _ _ _ _ ok_Scanner_quoted_word 0 (by rfl) (by rfl) (by decide)) (by decide) (by rfl) (by intro _ ; rfl)) (@eI _ _ _ _ _)) (@eL _ _ _ _ ok_Scanner_quoted_word 2 (by rfl) (by rfl) (by decide))) (@lv_cons _ _ _ _ _ _ _ (@ev_bin _ _ _ _ _ _ _ _ (@eL _ _ _ _ ok_Scanner_quoted_word 2 (by rfl) (by rfl) (by decide)) (@eI _ _ _ _ _)) (@lv_nil _ _ _) (by intro _; rfl)) (by intro _; rfl)) (by intro _; rfl)) (by intro _; rfl)) _ (by rfl) (by intro _ ; rfl) (by intro _ ; rfl) (by intro _ _ _ h ; cases h <;> rfl)) ok_Scanner_quoted_word (by intro _ ; rfl)) (@sv_cons _ _ _ _ _ _ (@sv_retNone _ _ _) (@sv_nil _ _)))⟩
noncomputable def D_Scanner_quoted_word_1 {g : GW} (H : Facts g) : {P : PTS // SVs g fi_Scanner_quoted_word (List.drop 1 (bodyOf (clsS 35 7))) P} := ⟨_,(@sv_cons _ _ _ _ _ _ (@sv_tup _ _ _ _ _ _ _ _ [3,2] ok_Scanner_quoted_word (.cons rfl rfl (.cons rfl rfl .nil)) (@eM _ _ _ _ _ _ _ _ _ 9 ok_Scanner_quoted_word (@eL _ _ _ _ ok_Scanner_quoted_word 0 (by rfl) (by rfl) (by decide)) (@lv_cons _ _ _ _ _ _ _ (@eL _ _ _ _ ok_Scanner_quoted_word 1 (by rfl) (by rfl) (by decide)) (@lv_cons _ _ _ _ _ _ _ (@ev_bin _ _ _ _ _ _ _ _ (@eA _ _ _ _ _ _ H.KO 3 (@eL _ _ _ _ ok_Scanner_quoted_word 0 (by rfl) (by rfl) (by decide)) (by decide) (by rfl) (by intro _ ; rfl)) (@eI _ _ _ _ _)) (@lv_nil _ _ _) (by intro _; rfl)) (by intro _; rfl)) _ (by rfl) (by intro _ ; rfl) (by intro _ ; rfl) (by intro _ _ _ h ; cases h <;> rfl)) (by intro _ ; rfl) (by intro _ ; rfl) (by intro _ ; rfl) (by intro _ ; rfl)) (@sv_cons _ _ _ _ _ _ (@sv_expr _ _ _ _ _ (@eM _ _ _ _ _ _ _ _ _ 4 ok_Scanner_quoted_word (@eL _ _ _ _ ok_Scanner_quoted_word 0 (by rfl) (by rfl) (by decide)) (@lv_cons _ _ _ _ _ _ _ (@ev_ifexp _ _ _ _ _ _ _ _ _ (@bv_cmp _ _ _ _ _ _ _ _ (@eL _ _ _ _ ok_Scanner_quoted_word 1 (by rfl) (by rfl) (by decide)) (@eS _ _ _ _ _) (by rfl)) (@eS _ _ _ _ _) (@eS _ _ _ _ _)) (@lv_cons _ _ _ _ _ _ _ (@eS _ _ _ _ _) (@lv_cons _ _ _ _ _ _ _ (@eL _ _ _ _ ok_Scanner_quoted_word 3 (by rfl) (by rfl) (by decide)) (@lv_cons _ _ _ _ _ _ _ (@eL _ _ _ _ ok_Scanner_quoted_word 2 (by rfl) (by rfl) (by decide)) (@lv_nil _ _ _) (by intro _; rfl)) (by intro _; rfl)) (by intro _; rfl)) (by intro _; rfl)) _ (by rfl) (by intro _ ; rfl) (by intro _ ; rfl) (by intro _ _ _ h ; cases h <;> rfl)) ok_Scanner_quoted_word (by intro _ ; rfl)) (@sv_nil _ _)))⟩
noncomputable def D_Scanner_quoted_word {g : GW} (H : Facts g) : {P : PTS // SVs g fi_Scanner_quoted_word (bodyOf (clsS 35 7)) P} := ⟨_,(@sv_cons _ _ _ _ _ _ (@sv_if _ _ _ _ _ _ _ _ _ (@bv_cmp _ _ _ _ _ _ _ _ (@eL _ _ _ _ ok_Scanner_quoted_word 1 (by rfl) (by rfl) (by decide)) (@eS _ _ _ _ _) (by rfl)) (@sv_cons _ _ _ _ _ _ (@sv_asg _ _ _ _ _ _ _ 2 ok_Scanner_quoted_word rfl rfl (@ev_strM _ _ _ _ _ _ _ _ _ .find rfl (@eA _ _ _ _ _ _ H.KO 1 (@eL _ _ _ _ ok_Scanner_quoted_word 0 (by rfl) (by rfl) (by decide)) (by decide) (by rfl) (by intro _ ; rfl)) (@lv_cons _ _ _ _ _ _ _ (@eS _ _ _ _ _) (@lv_cons _ _ _ _ _ _ _ (@eA _ _ _ _ _ _ H.KO 3 (@eL _ _ _ _ ok_Scanner_quoted_word 0 (by rfl) (by rfl) (by decide)) (by decide) (by rfl) (by intro _ ; rfl)) (@lv_nil _ _ _) (by intro _; rfl)) (by intro _; rfl)) _ (by intro _ ; rfl) (by intro _ ; rfl) (by intro _ _ _ h ; cases h <;> rfl)) (by intro _ ; rfl)) (@sv_cons _ _ _ _ _ _ (@sv_if _ _ _ _ _ _ _ _ _ (@bv_cmp _ _ _ _ _ _ _ _ (@eL _ _ _ _ ok_Scanner_quoted_word 2 (by rfl) (by rfl) (by decide)) (@eI _ _ _ _ _) (by rfl)) (@svs_no _ _ _) (@sv_nil _ _)) (@Subtype.property _ _ (D_Scanner_quoted_word_0 H)))) (@sv_nil _ _)) (@Subtype.property _ _ (D_Scanner_quoted_word_1 H)))⟩
noncomputable def D_Scanner_number_0 {g : GW} (H : Facts g) : {P : PTS // SVs g fi_Scanner_number (elseB (stA (bodyOf (clsS 35 9)) 1)) P} := ⟨_,(@sv_cons _ _ _ _ _ _ (@sv_asg _ _ _ _ _ _ _ 2 ok_Scanner_number rfl rfl (@eM _ _ _ _ _ _ _ _ _ 7 ok_Scanner_number (@eL _ _ _ _ ok_Scanner_number 0 (by rfl) (by rfl) (by decide)) (@lv_cons _ _ _ _ _ _ _ (@eT _ _ _ _ _ _ ok_Scanner_number H.g_FIGURES (by rfl) (by rfl) (by decide)) (@lv_cons _ _ _ _ _ _ _ (@eL _ _ _ _ ok_Scanner_number 1 (by rfl) (by rfl) (by decide)) (@lv_nil _ _ _) (by intro _; rfl)) (by intro _; rfl)) _ (by rfl) (by intro _ ; rfl) (by intro _ ; rfl) (by intro _ _ _ h ; cases h <;> rfl)) (by intro _ ; rfl)) (@sv_cons _ _ _ _ _ _ (@sv_asg _ _ _ _ _ _ _ 3 ok_Scanner_number rfl rfl (@eM _ _ _ _ _ _ _ _ _ 12 ok_Scanner_number (@eL _ _ _ _ ok_Scanner_number 0 (by rfl) (by rfl) (by decide)) (@lv_cons _ _ _ _ _ _ _ (@eL _ _ _ _ ok_Scanner_number 1 (by rfl) (by rfl) (by decide)) (@lv_cons _ _ _ _ _ _ _ (@eL _ _ _ _ ok_Scanner_number 2 (by rfl) (by rfl) (by decide)) (@lv_cons _ _ _ _ _ _ _ (@eI _ _ _ _ _) (@lv_nil _ _ _) (by intro _; rfl)) (by intro _; rfl)) (by intro _; rfl)) _ (by rfl) (by intro _ ; rfl) (by intro _ ; rfl) (by intro _ _ _ h ; cases h <;> rfl)) (by intro _ ; rfl)) (@sv_cons _ _ _ _ _ _ (@sv_if _ _ _ _ _ _ _ _ _ (@bv_cmp _ _ _ _ _ _ _ _ (@eL _ _ _ _ ok_Scanner_number 3 (by rfl) (by rfl) (by decide)) (@eT _ _ _ _ _ _ ok_Scanner_number H.g_GREATEST (by rfl) (by rfl) (by decide)) (by rfl)) (@svs_no _ _ _) (@sv_nil _ _)) (@sv_nil _ _))))⟩
noncomputable def D_Scanner_number_1 {g : GW} (H : Facts g) : {P : PTS // SVs g fi_Scanner_number (List.drop 3 (bodyOf (clsS 35 9))) P} := ⟨_,(@sv_cons _ _ _ _ _ _ (@sv_if _ _ _ _ _ _ _ _ _ (@bv_and _ _ _ _ _ _ _ (@bv_cmp _ _ _ _ _ _ _ _ (@eL _ _ _ _ ok_Scanner_number 4 (by rfl) (by rfl) (by decide)) (@eS _ _ _ _ _) (by rfl)) (@bv_and _ _ _ _ _ _ _ (@bv_or _ _ _ _ _ _ _ (@bv_cmp _ _ _ _ _ _ _ _ (@eL _ _ _ _ ok_Scanner_number 4 (by rfl) (by rfl) (by decide)) (@eS _ _ _ _ _) (by rfl)) (@bv_or _ _ _ _ _ _ _ (@bv_plain _ _ _ _ (@eC _ _ _ _ _ _ _ _ ok_Scanner_number H.g_goes_on_name H.k_goes_on_name (@lv_cons _ _ _ _ _ _ _ (@eL _ _ _ _ ok_Scanner_number 4 (by rfl) (by rfl) (by decide)) (@lv_nil _ _ _) (by intro _; rfl)) (by rfl) (by decide) (by intro _ ; rfl) (by intro _ _ _ h ; cases h <;> rfl)) (by intro _ _ ; rfl)) (@bv_or_nil _ _ _) (by intro _ _ _ ; rfl)) (by intro _ _ _ ; rfl)) (@bv_and_nil _ _ _) (by intro _ _ _ ; rfl)) (by intro _ _ _ ; rfl)) (@svs_no _ _ _) (@sv_nil _ _)) (@sv_cons _ _ _ _ _ _ (@sv_expr _ _ _ _ _ (@eM _ _ _ _ _ _ _ _ _ 4 ok_Scanner_number (@eL _ _ _ _ ok_Scanner_number 0 (by rfl) (by rfl) (by decide)) (@lv_cons _ _ _ _ _ _ _ (@eS _ _ _ _ _) (@lv_cons _ _ _ _ _ _ _ (@eS _ _ _ _ _) (@lv_cons _ _ _ _ _ _ _ (@eL _ _ _ _ ok_Scanner_number 3 (by rfl) (by rfl) (by decide)) (@lv_cons _ _ _ _ _ _ _ (@eL _ _ _ _ ok_Scanner_number 2 (by rfl) (by rfl) (by decide)) (@lv_nil _ _ _) (by intro _; rfl)) (by intro _; rfl)) (by intro _; rfl)) (by intro _; rfl)) _ (by rfl) (by intro _ ; rfl) (by intro _ ; rfl) (by intro _ _ _ h ; cases h <;> rfl)) ok_Scanner_number (by intro _ ; rfl)) (@sv_nil _ _)))⟩
noncomputable def D_Scanner_number_2 {g : GW} (H : Facts g) : {P : PTS // SVs g fi_Scanner_number (List.drop 1 (bodyOf (clsS 35 9))) P} := ⟨_,(@sv_cons _ _ _ _ _ _ (@sv_if _ _ _ _ _ _ _ _ _ (@bv_cmp _ _ _ _ _ _ _ _ (@ev_slice _ _ _ _ _ _ _ _ _ _ (@eA _ _ _ _ _ _ H.KO 1 (@eL _ _ _ _ ok_Scanner_number 0 (by rfl) (by rfl) (by decide)) (by decide) (by rfl) (by intro _ ; rfl)) (@eL _ _ _ _ ok_Scanner_number 1 (by rfl) (by rfl) (by decide)) (@ev_bin _ _ _ _ _ _ _ _ (@eL _ _ _ _ ok_Scanner_number 1 (by rfl) (by rfl) (by decide)) (@eI _ _ _ _ _))) (@ev_tup _ _ _ _ _ _ (@lv_cons _ _ _ _ _ _ _ (@eS _ _ _ _ _) (@lv_cons _ _ _ _ _ _ _ (@eS _ _ _ _ _) (@lv_nil _ _ _) (by intro _; rfl)) (by intro _; rfl))) (by rfl)) (@svs_no _ _ _) (@Subtype.property _ _ (D_Scanner_number_0 H))) (@sv_cons _ _ _ _ _ _ (@sv_asg _ _ _ _ _ _ _ 4 ok_Scanner_number rfl rfl (@ev_slice _ _ _ _ _ _ _ _ _ _ (@eA _ _ _ _ _ _ H.KO 1 (@eL _ _ _ _ ok_Scanner_number 0 (by rfl) (by rfl) (by decide)) (by decide) (by rfl) (by intro _ ; rfl)) (@eL _ _ _ _ ok_Scanner_number 2 (by rfl) (by rfl) (by decide)) (@ev_bin _ _ _ _ _ _ _ _ (@eL _ _ _ _ ok_Scanner_number 2 (by rfl) (by rfl) (by decide)) (@eI _ _ _ _ _))) (by intro _ ; rfl)) (@Subtype.property _ _ (D_Scanner_number_1 H))))⟩
noncomputable def D_Scanner_number {g : GW} (H : Facts g) : {P : PTS // SVs g fi_Scanner_number (bodyOf (clsS 35 9)) P} := ⟨_,(@sv_cons _ _ _ _ _ _ (@sv_asg _ _ _ _ _ _ _ 1 ok_Scanner_number rfl rfl (@eA _ _ _ _ _ _ H.KO 3 (@eL _ _ _ _ ok_Scanner_number 0 (by rfl) (by rfl) (by decide)) (by decide) (by rfl) (by intro _ ; rfl)) (by intro _ ; rfl)) (@Subtype.property _ _ (D_Scanner_number_2 H)))⟩
noncomputable def D_Scanner_value_of_0 {g : GW} (H : Facts g) : {P : PTS // SVs g fi_Scanner_value_of (List.drop 2 (bodyOf (clsS 35 10))) P} := ⟨_,(@sv_cons _ _ _ _ _ _ (@sv_if _ _ _ _ _ _ _ _ _ (@bv_cmp _ _ _ _ _ _ _ _ (@eB _ _ _ _ _ _ _ _ .len H.IO ok_Scanner_value_of H.b_len bb_len (@lv_cons _ _ _ _ _ _ _ (@eL _ _ _ _ ok_Scanner_value_of 4 (by rfl) (by rfl) (by decide)) (@lv_nil _ _ _) (by intro _; rfl)) (by rfl) (by decide) (by decide) (by intro _ ; rfl) (by intro _ ; rfl)) (@eI _ _ _ _ _) (by rfl)) (@svs_no _ _ _) (@sv_nil _ _)) (@sv_cons _ _ _ _ _ _ (@sv_ret _ _ _ _ _ (@ev_ifexp _ _ _ _ _ _ _ _ _ (@bv_cmp _ _ _ _ _ _ _ _ (@eL _ _ _ _ ok_Scanner_value_of 4 (by rfl) (by rfl) (by decide)) (@eS _ _ _ _ _) (by rfl)) (@eB _ _ _ _ _ _ _ _ .int H.IO ok_Scanner_value_of H.b_int bb_int (@lv_cons _ _ _ _ _ _ _ (@eL _ _ _ _ ok_Scanner_value_of 4 (by rfl) (by rfl) (by decide)) (@lv_cons _ _ _ _ _ _ _ (@eL _ _ _ _ ok_Scanner_value_of 3 (by rfl) (by rfl) (by decide)) (@lv_nil _ _ _) (by intro _; rfl)) (by intro _; rfl)) (by rfl) (by decide) (by decide) (by intro _ ; rfl) (by intro _ ; rfl)) (@eI _ _ _ _ _))) (@sv_nil _ _)))⟩
noncomputable def D_Scanner_value_of {g : GW} (H : Facts g) : {P : PTS // SVs g fi_Scanner_value_of (bodyOf (clsS 35 10)) P} := ⟨_,(@sv_cons _ _ _ _ _ _ (@sv_if _ _ _ _ _ _ _ _ _ (@bv_cmp _ _ _ _ _ _ _ _ (@eL _ _ _ _ ok_Scanner_value_of 1 (by rfl) (by rfl) (by decide)) (@eL _ _ _ _ ok_Scanner_value_of 2 (by rfl) (by rfl) (by decide)) (by rfl)) (@svs_no _ _ _) (@sv_nil _ _)) (@sv_cons _ _ _ _ _ _ (@sv_asg _ _ _ _ _ _ _ 4 ok_Scanner_value_of rfl rfl (@ev_strM _ _ _ _ _ _ _ _ _ .lstrip rfl (@ev_slice _ _ _ _ _ _ _ _ _ _ (@eA _ _ _ _ _ _ H.KO 1 (@eL _ _ _ _ ok_Scanner_value_of 0 (by rfl) (by rfl) (by decide)) (by decide) (by rfl) (by intro _ ; rfl)) (@eL _ _ _ _ ok_Scanner_value_of 1 (by rfl) (by rfl) (by decide)) (@eL _ _ _ _ ok_Scanner_value_of 2 (by rfl) (by rfl) (by decide))) (@lv_cons _ _ _ _ _ _ _ (@eS _ _ _ _ _) (@lv_nil _ _ _) (by intro _; rfl)) _ (by intro _ ; rfl) (by intro _ ; rfl) (by intro _ _ _ h ; cases h <;> rfl)) (by intro _ ; rfl)) (@Subtype.property _ _ (D_Scanner_value_of_0 H))))⟩
noncomputable def D_Scanner_mark_0 {g : GW} (H : Facts g) : {P : PTS // SVs g fi_Scanner_mark (elseB (stA (elseB (stA (elseB (stA (bodyOf (clsS 35 11)) 2)) 0)) 0)) P} := ⟨_,(@sv_cons _ _ _ _ _ _ (@sv_if _ _ _ _ _ _ _ _ _ (@bv_cmp _ _ _ _ _ _ _ _ (@eL _ _ _ _ ok_Scanner_mark 1 (by rfl) (by rfl) (by decide)) (@eT _ _ _ _ _ _ ok_Scanner_mark H.g_SIGNS_OF_ONE (by rfl) (by rfl) (by decide)) (by rfl)) (@sv_cons _ _ _ _ _ _ (@sv_expr _ _ _ _ _ (@eM _ _ _ _ _ _ _ _ _ 4 ok_Scanner_mark (@eL _ _ _ _ ok_Scanner_mark 0 (by rfl) (by rfl) (by decide)) (@lv_cons _ _ _ _ _ _ _ (@eS _ _ _ _ _) (@lv_cons _ _ _ _ _ _ _ (@eL _ _ _ _ ok_Scanner_mark 1 (by rfl) (by rfl) (by decide)) (@lv_cons _ _ _ _ _ _ _ (@ev_none _ _ _ _) (@lv_cons _ _ _ _ _ _ _ (@ev_bin _ _ _ _ _ _ _ _ (@eA _ _ _ _ _ _ H.KO 3 (@eL _ _ _ _ ok_Scanner_mark 0 (by rfl) (by rfl) (by decide)) (by decide) (by rfl) (by intro _ ; rfl)) (@eI _ _ _ _ _)) (@lv_nil _ _ _) (by intro _; rfl)) (by intro _; rfl)) (by intro _; rfl)) (by intro _; rfl)) _ (by rfl) (by intro _ ; rfl) (by intro _ ; rfl) (by intro _ _ _ h ; cases h <;> rfl)) ok_Scanner_mark (by intro _ ; rfl)) (@sv_nil _ _)) (@svs_no _ _ _)) (@sv_nil _ _))⟩
noncomputable def D_Scanner_mark_1 {g : GW} (H : Facts g) : {P : PTS // SVs g fi_Scanner_mark (List.drop 1 (bodyOf (clsS 35 11))) P} := ⟨_,(@sv_cons _ _ _ _ _ _ (@sv_asg _ _ _ _ _ _ _ 3 ok_Scanner_mark rfl rfl (@ev_slice _ _ _ _ _ _ _ _ _ _ (@eL _ _ _ _ ok_Scanner_mark 2 (by rfl) (by rfl) (by decide)) (@eA _ _ _ _ _ _ H.KO 3 (@eL _ _ _ _ ok_Scanner_mark 0 (by rfl) (by rfl) (by decide)) (by decide) (by rfl) (by intro _ ; rfl)) (@ev_bin _ _ _ _ _ _ _ _ (@eA _ _ _ _ _ _ H.KO 3 (@eL _ _ _ _ ok_Scanner_mark 0 (by rfl) (by rfl) (by decide)) (by decide) (by rfl) (by intro _ ; rfl)) (@eI _ _ _ _ _))) (by intro _ ; rfl)) (@sv_cons _ _ _ _ _ _ (@sv_if _ _ _ _ _ _ _ _ _ (@bv_cmp _ _ _ _ _ _ _ _ (@eL _ _ _ _ ok_Scanner_mark 3 (by rfl) (by rfl) (by decide)) (@eS _ _ _ _ _) (by rfl)) (@svs_no _ _ _) (@sv_cons _ _ _ _ _ _ (@sv_if _ _ _ _ _ _ _ _ _ (@bv_cmp _ _ _ _ _ _ _ _ (@eL _ _ _ _ ok_Scanner_mark 3 (by rfl) (by rfl) (by decide)) (@eS _ _ _ _ _) (by rfl)) (@svs_no _ _ _) (@sv_cons _ _ _ _ _ _ (@sv_if _ _ _ _ _ _ _ _ _ (@bv_inTop _ _ _ _ _ _ _ _ _ false (@eL _ _ _ _ ok_Scanner_mark 3 (by rfl) (by rfl) (by decide)) ok_Scanner_mark rfl (by decide) H.g_SIGNS_OF_TWO H.t_SIGNS_OF_TWO) (@svs_no _ _ _) (@Subtype.property _ _ (D_Scanner_mark_0 H))) (@sv_nil _ _))) (@sv_nil _ _))) (@sv_nil _ _)))⟩
noncomputable def D_Scanner_mark {g : GW} (H : Facts g) : {P : PTS // SVs g fi_Scanner_mark (bodyOf (clsS 35 11)) P} := ⟨_,(@sv_cons _ _ _ _ _ _ (@sv_asg _ _ _ _ _ _ _ 2 ok_Scanner_mark rfl rfl (@eA _ _ _ _ _ _ H.KO 1 (@eL _ _ _ _ ok_Scanner_mark 0 (by rfl) (by rfl) (by decide)) (by decide) (by rfl) (by intro _ ; rfl)) (by intro _ ; rfl)) (@Subtype.property _ _ (D_Scanner_mark_1 H)))⟩
noncomputable def D_read_words {g : GW} (H : Facts g) : {P : PTS // SVs g fi_read_words (bodyOf (topS 36)) P} := ⟨_,(@sv_cons _ _ _ _ _ _ (@sv_ret _ _ _ _ _ (@eM _ _ _ _ _ _ _ _ _ 6 ok_read_words (@eC _ _ _ _ _ _ _ _ ok_read_words H.g_Scanner H.k_Scanner (@lv_cons _ _ _ _ _ _ _ (@eL _ _ _ _ ok_read_words 0 (by rfl) (by rfl) (by decide)) (@lv_nil _ _ _) (by intro _; rfl)) (by rfl) (by decide) (by intro _ ; rfl) (by intro _ _ _ h ; cases h <;> rfl)) (@lv_nil _ _ _) _ (by rfl) (by intro _ ; rfl) (by intro _ ; rfl) (by intro _ _ _ h ; cases h <;> rfl))) (@sv_nil _ _))⟩
noncomputable def D_is_bare_0 {g : GW} (H : Facts g) : {P : PTS // SVs g fi_is_bare (List.drop 2 (bodyOf (topS 39))) P} := ⟨_,(@sv_cons _ _ _ _ _ _ (@sv_if _ _ _ _ _ _ _ _ _ (@bv_or _ _ _ _ _ _ _ (@bv_inTop _ _ _ _ _ _ _ _ _ false (@eL _ _ _ _ ok_is_bare 1 (by rfl) (by rfl) (by decide)) ok_is_bare rfl (by decide) H.g_RESERVED H.t_RESERVED) (@bv_or _ _ _ _ _ _ _ (@bv_inTop _ _ _ _ _ _ _ _ _ false (@eL _ _ _ _ ok_is_bare 1 (by rfl) (by rfl) (by decide)) ok_is_bare rfl (by decide) H.g_JOINING H.t_JOINING) (@bv_or _ _ _ _ _ _ _ (@bv_inTop _ _ _ _ _ _ _ _ _ false (@eL _ _ _ _ ok_is_bare 1 (by rfl) (by rfl) (by decide)) ok_is_bare rfl (by decide) H.g_QUOTED_ALWAYS H.t_QUOTED_ALWAYS) (@bv_or_nil _ _ _) (by intro _ _ _ ; rfl)) (by intro _ _ _ ; rfl)) (by intro _ _ _ ; rfl)) (@sv_cons _ _ _ _ _ _ (@sv_ret _ _ _ _ _ (@ev_bool _ _ _ _ _)) (@sv_nil _ _)) (@sv_nil _ _)) (@sv_cons _ _ _ _ _ _ (@sv_forStr _ _ _ _ _ _ _ _ _ 2 ok_is_bare rfl rfl (@eL _ _ _ _ ok_is_bare 0 (by rfl) (by rfl) (by decide)) (@sv_cons _ _ _ _ _ _ (@sv_if _ _ _ _ _ _ _ _ _ (@bv_not _ _ _ _ _ (@bv_plain _ _ _ _ (@eC _ _ _ _ _ _ _ _ ok_is_bare H.g_goes_on_name H.k_goes_on_name (@lv_cons _ _ _ _ _ _ _ (@eL _ _ _ _ ok_is_bare 2 (by rfl) (by rfl) (by decide)) (@lv_nil _ _ _) (by intro _; rfl)) (by rfl) (by decide) (by intro _ ; rfl) (by intro _ _ _ h ; cases h <;> rfl)) (by intro _ _ ; rfl))) (@sv_cons _ _ _ _ _ _ (@sv_ret _ _ _ _ _ (@ev_bool _ _ _ _ _)) (@sv_nil _ _)) (@sv_nil _ _)) (@sv_nil _ _)) (by intro _ _ ; rfl)) (@sv_cons _ _ _ _ _ _ (@sv_ret _ _ _ _ _ (@ev_bool _ _ _ _ _)) (@sv_nil _ _))))⟩
noncomputable def D_is_bare {g : GW} (H : Facts g) : {P : PTS // SVs g fi_is_bare (bodyOf (topS 39)) P} := ⟨_,(@sv_cons _ _ _ _ _ _ (@sv_if _ _ _ _ _ _ _ _ _ (@bv_or _ _ _ _ _ _ _ (@bv_cmp _ _ _ _ _ _ _ _ (@eL _ _ _ _ ok_is_bare 0 (by rfl) (by rfl) (by decide)) (@eS _ _ _ _ _) (by rfl)) (@bv_or _ _ _ _ _ _ _ (@bv_not _ _ _ _ _ (@bv_plain _ _ _ _ (@eC _ _ _ _ _ _ _ _ ok_is_bare H.g_begins_name H.k_begins_name (@lv_cons _ _ _ _ _ _ _ (@ev_sub _ _ _ _ _ _ _ (@eL _ _ _ _ ok_is_bare 0 (by rfl) (by rfl) (by decide)) (@eI _ _ _ _ _) (by intro _ _ ; rfl)) (@lv_nil _ _ _) (by intro _; rfl)) (by rfl) (by decide) (by intro _ ; rfl) (by intro _ _ _ h ; cases h <;> rfl)) (by intro _ _ ; rfl))) (@bv_or_nil _ _ _) (by intro _ _ _ ; rfl)) (by intro _ _ _ ; rfl)) (@sv_cons _ _ _ _ _ _ (@sv_ret _ _ _ _ _ (@ev_bool _ _ _ _ _)) (@sv_nil _ _)) (@sv_nil _ _)) (@sv_cons _ _ _ _ _ _ (@sv_asg _ _ _ _ _ _ _ 1 ok_is_bare rfl rfl (@eC _ _ _ _ _ _ _ _ ok_is_bare H.g_folded H.k_folded (@lv_cons _ _ _ _ _ _ _ (@eL _ _ _ _ ok_is_bare 0 (by rfl) (by rfl) (by decide)) (@lv_nil _ _ _) (by intro _; rfl)) (by rfl) (by decide) (by intro _ ; rfl) (by intro _ _ _ h ; cases h <;> rfl)) (by intro _ ; rfl)) (@Subtype.property _ _ (D_is_bare_0 H))))⟩
noncomputable def D_write_name {g : GW} (H : Facts g) : {P : PTS // SVs g fi_write_name (bodyOf (topS 40)) P} := ⟨_,(@sv_cons _ _ _ _ _ _ (@sv_ret _ _ _ _ _ (@ev_ifexp _ _ _ _ _ _ _ _ _ (@bv_plain _ _ _ _ (@eC _ _ _ _ _ _ _ _ ok_write_name H.g_is_bare H.k_is_bare (@lv_cons _ _ _ _ _ _ _ (@eL _ _ _ _ ok_write_name 0 (by rfl) (by rfl) (by decide)) (@lv_nil _ _ _) (by intro _; rfl)) (by rfl) (by decide) (by intro _ ; rfl) (by intro _ _ _ h ; cases h <;> rfl)) (by intro _ _ ; rfl)) (@eL _ _ _ _ ok_write_name 0 (by rfl) (by rfl) (by decide)) (@ev_bin _ _ _ _ _ _ _ _ (@ev_bin _ _ _ _ _ _ _ _ (@eS _ _ _ _ _) (@ev_replace _ _ _ _ _ _ _ _ _ _ _ _ _ rfl (by decide) (@eL _ _ _ _ ok_write_name 0 (by rfl) (by rfl) (by decide)) _ (by intro _ ; rfl))) (@eS _ _ _ _ _)))) (@sv_nil _ _))⟩
noncomputable def D_write_value_0 {g : GW} (H : Facts g) : {P : PTS // SVs g fi_write_value (List.drop 2 (bodyOf (topS 41))) P} := ⟨_,(@sv_cons _ _ _ _ _ _ (@sv_if _ _ _ _ _ _ _ _ _ (@bv_plain _ _ _ _ (@eB _ _ _ _ _ _ _ _ .isinstance H.IO ok_write_value H.b_isinstance bb_isinstance (@lv_cons _ _ _ _ _ _ _ (@eL _ _ _ _ ok_write_value 0 (by rfl) (by rfl) (by decide)) (@lv_cons _ _ _ _ _ _ _ (@eT' _ _ _ _ .str ok_write_value H.b_str bb_str (by rfl) (by decide) (by decide)) (@lv_nil _ _ _) (by intro _; rfl)) (by intro _; rfl)) (by rfl) (by decide) (by decide) (by intro _ ; rfl) (by intro _ ; rfl)) (by intro _ _ ; rfl)) (@sv_cons _ _ _ _ _ _ (@sv_ret _ _ _ _ _ (@ev_bin _ _ _ _ _ _ _ _ (@ev_bin _ _ _ _ _ _ _ _ (@eS _ _ _ _ _) (@ev_replace _ _ _ _ _ _ _ _ _ _ _ _ _ rfl (by decide) (@eL _ _ _ _ ok_write_value 0 (by rfl) (by rfl) (by decide)) _ (by intro _ ; rfl))) (@eS _ _ _ _ _))) (@sv_nil _ _)) (@sv_nil _ _)) (@sv_cons _ _ _ _ _ _ (@sv_no _ _ _) (@sv_nil _ _)))⟩
noncomputable def D_write_value_1 {g : GW} (H : Facts g) : {P : PTS // SVs g fi_write_value (List.drop 1 (bodyOf (topS 41))) P} := ⟨_,(@sv_cons _ _ _ _ _ _ (@sv_if _ _ _ _ _ _ _ _ _ (@bv_plain _ _ _ _ (@eB _ _ _ _ _ _ _ _ .isinstance H.IO ok_write_value H.b_isinstance bb_isinstance (@lv_cons _ _ _ _ _ _ _ (@eL _ _ _ _ ok_write_value 0 (by rfl) (by rfl) (by decide)) (@lv_cons _ _ _ _ _ _ _ (@eT' _ _ _ _ .int ok_write_value H.b_int bb_int (by rfl) (by decide) (by decide)) (@lv_nil _ _ _) (by intro _; rfl)) (by intro _; rfl)) (by rfl) (by decide) (by decide) (by intro _ ; rfl) (by intro _ ; rfl)) (by intro _ _ ; rfl)) (@sv_cons _ _ _ _ _ _ (@sv_ret _ _ _ _ _ (@eB _ _ _ _ _ _ _ _ .str H.IO ok_write_value H.b_str bb_str (@lv_cons _ _ _ _ _ _ _ (@eL _ _ _ _ ok_write_value 0 (by rfl) (by rfl) (by decide)) (@lv_nil _ _ _) (by intro _; rfl)) (by rfl) (by decide) (by decide) (by intro _ ; rfl) (by intro _ ; rfl))) (@sv_nil _ _)) (@sv_nil _ _)) (@Subtype.property _ _ (D_write_value_0 H)))⟩
noncomputable def D_write_value {g : GW} (H : Facts g) : {P : PTS // SVs g fi_write_value (bodyOf (topS 41)) P} := ⟨_,(@sv_cons _ _ _ _ _ _ (@sv_if _ _ _ _ _ _ _ _ _ (@bv_cmp _ _ _ _ _ _ _ _ (@eL _ _ _ _ ok_write_value 0 (by rfl) (by rfl) (by decide)) (@ev_none _ _ _ _) (by rfl)) (@sv_cons _ _ _ _ _ _ (@sv_ret _ _ _ _ _ (@eS _ _ _ _ _)) (@sv_nil _ _)) (@sv_nil _ _)) (@Subtype.property _ _ (D_write_value_1 H)))⟩
noncomputable def D_write_transaction_0 {g : GW} (H : Facts g) : {P : PTS // SVs g fi_write_transaction (thenB (stA (bodyOf (topS 43)) 5)) P} := ⟨_,(@sv_cons _ _ _ _ _ _ (@sv_asg _ _ _ _ _ _ _ 1 ok_write_transaction rfl rfl (@ev_bin _ _ _ _ _ _ _ _ (@eS _ _ _ _ _) (@eC _ _ _ _ _ _ _ _ ok_write_transaction H.g_write_name H.k_write_name (@lv_cons _ _ _ _ _ _ _ (@eA _ _ _ _ _ _ H.KO 10 (@eL _ _ _ _ ok_write_transaction 0 (by rfl) (by rfl) (by decide)) (by decide) (by rfl) (by intro _ ; rfl)) (@lv_nil _ _ _) (by intro _; rfl)) (by rfl) (by decide) (by intro _ ; rfl) (by intro _ _ _ h ; cases h <;> rfl))) (by intro _ ; rfl)) (@sv_cons _ _ _ _ _ _ (@sv_ret _ _ _ _ _ (@ev_ifexp _ _ _ _ _ _ _ _ _ (@bv_cmp _ _ _ _ _ _ _ _ (@eA _ _ _ _ _ _ H.KO 2 (@eL _ _ _ _ ok_write_transaction 0 (by rfl) (by rfl) (by decide)) (by decide) (by rfl) (by intro _ ; rfl)) (@ev_none _ _ _ _) (by rfl)) (@eL _ _ _ _ ok_write_transaction 1 (by rfl) (by rfl) (by decide)) (@ev_bin _ _ _ _ _ _ _ _ (@ev_bin _ _ _ _ _ _ _ _ (@eL _ _ _ _ ok_write_transaction 1 (by rfl) (by rfl) (by decide)) (@eS _ _ _ _ _)) (@eC _ _ _ _ _ _ _ _ ok_write_transaction H.g_write_value H.k_write_value (@lv_cons _ _ _ _ _ _ _ (@eA _ _ _ _ _ _ H.KO 2 (@eL _ _ _ _ ok_write_transaction 0 (by rfl) (by rfl) (by decide)) (by decide) (by rfl) (by intro _ ; rfl)) (@lv_nil _ _ _) (by intro _; rfl)) (by rfl) (by decide) (by intro _ ; rfl) (by intro _ _ _ h ; cases h <;> rfl))))) (@sv_nil _ _)))⟩
noncomputable def D_write_transaction_1 {g : GW} (H : Facts g) : {P : PTS // SVs g fi_write_transaction (List.drop 5 (bodyOf (topS 43))) P} := ⟨_,(@sv_cons _ _ _ _ _ _ (@sv_if _ _ _ _ _ _ _ _ _ (@bv_plain _ _ _ _ (@eB _ _ _ _ _ _ _ _ .isinstance H.IO ok_write_transaction H.b_isinstance bb_isinstance (@lv_cons _ _ _ _ _ _ _ (@eL _ _ _ _ ok_write_transaction 0 (by rfl) (by rfl) (by decide)) (@lv_cons _ _ _ _ _ _ _ (@eT _ _ _ _ _ _ ok_write_transaction H.g_Pragma (by rfl) (by rfl) (by decide)) (@lv_nil _ _ _) (by intro _; rfl)) (by intro _; rfl)) (by rfl) (by decide) (by decide) (by intro _ ; rfl) (by intro _ ; rfl)) (by intro _ _ ; rfl)) (@Subtype.property _ _ (D_write_transaction_0 H)) (@sv_nil _ _)) (@sv_cons _ _ _ _ _ _ (@sv_if _ _ _ _ _ _ _ _ _ (@bv_plain _ _ _ _ (@eB _ _ _ _ _ _ _ _ .isinstance H.IO ok_write_transaction H.b_isinstance bb_isinstance (@lv_cons _ _ _ _ _ _ _ (@eL _ _ _ _ ok_write_transaction 0 (by rfl) (by rfl) (by decide)) (@lv_cons _ _ _ _ _ _ _ (@eT _ _ _ _ _ _ ok_write_transaction H.g_Vacuum (by rfl) (by rfl) (by decide)) (@lv_nil _ _ _) (by intro _; rfl)) (by intro _; rfl)) (by rfl) (by decide) (by decide) (by intro _ ; rfl) (by intro _ ; rfl)) (by intro _ _ ; rfl)) (@sv_cons _ _ _ _ _ _ (@sv_ret _ _ _ _ _ (@eS _ _ _ _ _)) (@sv_nil _ _)) (@sv_nil _ _)) (@sv_cons _ _ _ _ _ _ (@sv_no _ _ _) (@sv_nil _ _))))⟩
noncomputable def D_write_transaction_2 {g : GW} (H : Facts g) : {P : PTS // SVs g fi_write_transaction (List.drop 4 (bodyOf (topS 43))) P} := ⟨_,(@sv_cons _ _ _ _ _ _ (@sv_if _ _ _ _ _ _ _ _ _ (@bv_plain _ _ _ _ (@eB _ _ _ _ _ _ _ _ .isinstance H.IO ok_write_transaction H.b_isinstance bb_isinstance (@lv_cons _ _ _ _ _ _ _ (@eL _ _ _ _ ok_write_transaction 0 (by rfl) (by rfl) (by decide)) (@lv_cons _ _ _ _ _ _ _ (@eT _ _ _ _ _ _ ok_write_transaction H.g_Release (by rfl) (by rfl) (by decide)) (@lv_nil _ _ _) (by intro _; rfl)) (by intro _; rfl)) (by rfl) (by decide) (by decide) (by intro _ ; rfl) (by intro _ ; rfl)) (by intro _ _ ; rfl)) (@sv_cons _ _ _ _ _ _ (@sv_ret _ _ _ _ _ (@ev_bin _ _ _ _ _ _ _ _ (@eS _ _ _ _ _) (@eC _ _ _ _ _ _ _ _ ok_write_transaction H.g_write_name H.k_write_name (@lv_cons _ _ _ _ _ _ _ (@eA _ _ _ _ _ _ H.KO 10 (@eL _ _ _ _ ok_write_transaction 0 (by rfl) (by rfl) (by decide)) (by decide) (by rfl) (by intro _ ; rfl)) (@lv_nil _ _ _) (by intro _; rfl)) (by rfl) (by decide) (by intro _ ; rfl) (by intro _ _ _ h ; cases h <;> rfl)))) (@sv_nil _ _)) (@sv_nil _ _)) (@Subtype.property _ _ (D_write_transaction_1 H)))⟩
noncomputable def D_write_transaction_3 {g : GW} (H : Facts g) : {P : PTS // SVs g fi_write_transaction (List.drop 3 (bodyOf (topS 43))) P} := ⟨_,(@sv_cons _ _ _ _ _ _ (@sv_if _ _ _ _ _ _ _ _ _ (@bv_plain _ _ _ _ (@eB _ _ _ _ _ _ _ _ .isinstance H.IO ok_write_transaction H.b_isinstance bb_isinstance (@lv_cons _ _ _ _ _ _ _ (@eL _ _ _ _ ok_write_transaction 0 (by rfl) (by rfl) (by decide)) (@lv_cons _ _ _ _ _ _ _ (@eT _ _ _ _ _ _ ok_write_transaction H.g_Savepoint (by rfl) (by rfl) (by decide)) (@lv_nil _ _ _) (by intro _; rfl)) (by intro _; rfl)) (by rfl) (by decide) (by decide) (by intro _ ; rfl) (by intro _ ; rfl)) (by intro _ _ ; rfl)) (@sv_cons _ _ _ _ _ _ (@sv_ret _ _ _ _ _ (@ev_bin _ _ _ _ _ _ _ _ (@eS _ _ _ _ _) (@eC _ _ _ _ _ _ _ _ ok_write_transaction H.g_write_name H.k_write_name (@lv_cons _ _ _ _ _ _ _ (@eA _ _ _ _ _ _ H.KO 10 (@eL _ _ _ _ ok_write_transaction 0 (by rfl) (by rfl) (by decide)) (by decide) (by rfl) (by intro _ ; rfl)) (@lv_nil _ _ _) (by intro _; rfl)) (by rfl) (by decide) (by intro _ ; rfl) (by intro _ _ _ h ; cases h <;> rfl)))) (@sv_nil _ _)) (@sv_nil _ _)) (@Subtype.property _ _ (D_write_transaction_2 H)))⟩
noncomputable def D_write_transaction_4 {g : GW} (H : Facts g) : {P : PTS // SVs g fi_write_transaction (List.drop 2 (bodyOf (topS 43))) P} := ⟨_,(@sv_cons _ _ _ _ _ _ (@sv_if _ _ _ _ _ _ _ _ _ (@bv_plain _ _ _ _ (@eB _ _ _ _ _ _ _ _ .isinstance H.IO ok_write_transaction H.b_isinstance bb_isinstance (@lv_cons _ _ _ _ _ _ _ (@eL _ _ _ _ ok_write_transaction 0 (by rfl) (by rfl) (by decide)) (@lv_cons _ _ _ _ _ _ _ (@eT _ _ _ _ _ _ ok_write_transaction H.g_Rollback (by rfl) (by rfl) (by decide)) (@lv_nil _ _ _) (by intro _; rfl)) (by intro _; rfl)) (by rfl) (by decide) (by decide) (by intro _ ; rfl) (by intro _ ; rfl)) (by intro _ _ ; rfl)) (@sv_cons _ _ _ _ _ _ (@sv_ret _ _ _ _ _ (@ev_bin _ _ _ _ _ _ _ _ (@eS _ _ _ _ _) (@ev_ifexp _ _ _ _ _ _ _ _ _ (@bv_cmp _ _ _ _ _ _ _ _ (@eA _ _ _ _ _ _ H.KO 10 (@eL _ _ _ _ ok_write_transaction 0 (by rfl) (by rfl) (by decide)) (by decide) (by rfl) (by intro _ ; rfl)) (@ev_none _ _ _ _) (by rfl)) (@eS _ _ _ _ _) (@ev_bin _ _ _ _ _ _ _ _ (@eS _ _ _ _ _) (@eC _ _ _ _ _ _ _ _ ok_write_transaction H.g_write_name H.k_write_name (@lv_cons _ _ _ _ _ _ _ (@eA _ _ _ _ _ _ H.KO 10 (@eL _ _ _ _ ok_write_transaction 0 (by rfl) (by rfl) (by decide)) (by decide) (by rfl) (by intro _ ; rfl)) (@lv_nil _ _ _) (by intro _; rfl)) (by rfl) (by decide) (by intro _ ; rfl) (by intro _ _ _ h ; cases h <;> rfl)))))) (@sv_nil _ _)) (@sv_nil _ _)) (@Subtype.property _ _ (D_write_transaction_3 H)))⟩
noncomputable def D_write_transaction {g : GW} (H : Facts g) : {P : PTS // SVs g fi_write_transaction (bodyOf (topS 43)) P} := ⟨_,(@sv_cons _ _ _ _ _ _ (@sv_if _ _ _ _ _ _ _ _ _ (@bv_plain _ _ _ _ (@eB _ _ _ _ _ _ _ _ .isinstance H.IO ok_write_transaction H.b_isinstance bb_isinstance (@lv_cons _ _ _ _ _ _ _ (@eL _ _ _ _ ok_write_transaction 0 (by rfl) (by rfl) (by decide)) (@lv_cons _ _ _ _ _ _ _ (@eT _ _ _ _ _ _ ok_write_transaction H.g_Begin (by rfl) (by rfl) (by decide)) (@lv_nil _ _ _) (by intro _; rfl)) (by intro _; rfl)) (by rfl) (by decide) (by decide) (by intro _ ; rfl) (by intro _ ; rfl)) (by intro _ _ ; rfl)) (@sv_cons _ _ _ _ _ _ (@sv_ret _ _ _ _ _ (@ev_bin _ _ _ _ _ _ _ _ (@eS _ _ _ _ _) (@ev_ifexp _ _ _ _ _ _ _ _ _ (@bv_cmp _ _ _ _ _ _ _ _ (@eA _ _ _ _ _ _ H.KO 0 (@eL _ _ _ _ ok_write_transaction 0 (by rfl) (by rfl) (by decide)) (by decide) (by rfl) (by intro _ ; rfl)) (@eS _ _ _ _ _) (by rfl)) (@eS _ _ _ _ _) (@ev_bin _ _ _ _ _ _ _ _ (@eS _ _ _ _ _) (@ev_strM _ _ _ _ _ _ _ _ _ .upper rfl (@eA _ _ _ _ _ _ H.KO 0 (@eL _ _ _ _ ok_write_transaction 0 (by rfl) (by rfl) (by decide)) (by decide) (by rfl) (by intro _ ; rfl)) (@lv_nil _ _ _) _ (by intro _ ; rfl) (by intro _ ; rfl) (by intro _ _ _ h ; cases h <;> rfl)))))) (@sv_nil _ _)) (@sv_nil _ _)) (@sv_cons _ _ _ _ _ _ (@sv_if _ _ _ _ _ _ _ _ _ (@bv_plain _ _ _ _ (@eB _ _ _ _ _ _ _ _ .isinstance H.IO ok_write_transaction H.b_isinstance bb_isinstance (@lv_cons _ _ _ _ _ _ _ (@eL _ _ _ _ ok_write_transaction 0 (by rfl) (by rfl) (by decide)) (@lv_cons _ _ _ _ _ _ _ (@eT _ _ _ _ _ _ ok_write_transaction H.g_Commit (by rfl) (by rfl) (by decide)) (@lv_nil _ _ _) (by intro _; rfl)) (by intro _; rfl)) (by rfl) (by decide) (by decide) (by intro _ ; rfl) (by intro _ ; rfl)) (by intro _ _ ; rfl)) (@sv_cons _ _ _ _ _ _ (@sv_ret _ _ _ _ _ (@eS _ _ _ _ _)) (@sv_nil _ _)) (@sv_nil _ _)) (@Subtype.property _ _ (D_write_transaction_4 H))))⟩
noncomputable def D_WordStream_init {g : GW} (H : Facts g) : {P : PTS // SVs g fi_WordStream_init (bodyOf (clsS 45 0)) P} := ⟨_,(@sv_cons _ _ _ _ _ _ (@sv_attr _ _ _ _ _ _ _ _ _ 1 H.KO (by decide) rfl (@eL _ _ _ _ ok_WordStream_init 0 (by rfl) (by rfl) (by decide)) (@eL _ _ _ _ ok_WordStream_init 1 (by rfl) (by rfl) (by decide)) (by intro _ ; rfl)) (@sv_cons _ _ _ _ _ _ (@sv_attr _ _ _ _ _ _ _ _ _ 6 H.KO (by decide) rfl (@eL _ _ _ _ ok_WordStream_init 0 (by rfl) (by rfl) (by decide)) (@eC _ _ _ _ _ _ _ _ ok_WordStream_init H.g_read_words H.k_read_words (@lv_cons _ _ _ _ _ _ _ (@eL _ _ _ _ ok_WordStream_init 1 (by rfl) (by rfl) (by decide)) (@lv_nil _ _ _) (by intro _; rfl)) (by rfl) (by decide) (by intro _ ; rfl) (by intro _ _ _ h ; cases h <;> rfl)) (by intro _ ; rfl)) (@sv_cons _ _ _ _ _ _ (@sv_attr _ _ _ _ _ _ _ _ _ 7 H.KO (by decide) rfl (@eL _ _ _ _ ok_WordStream_init 0 (by rfl) (by rfl) (by decide)) (@eI _ _ _ _ _) (by intro _ ; rfl)) (@sv_cons _ _ _ _ _ _ (@sv_attr _ _ _ _ _ _ _ _ _ 8 H.KO (by decide) rfl (@eL _ _ _ _ ok_WordStream_init 0 (by rfl) (by rfl) (by decide)) (@eI _ _ _ _ _) (by intro _ ; rfl)) (@sv_nil _ _)))))⟩
noncomputable def D_WordStream_here {g : GW} (H : Facts g) : {P : PTS // SVs g fi_WordStream_here (bodyOf (clsS 45 1)) P} := ⟨_,(@sv_cons _ _ _ _ _ _ (@sv_ret _ _ _ _ _ (@ev_sub _ _ _ _ _ _ _ (@eA _ _ _ _ _ _ H.KO 6 (@eL _ _ _ _ ok_WordStream_here 0 (by rfl) (by rfl) (by decide)) (by decide) (by rfl) (by intro _ ; rfl)) (@eA _ _ _ _ _ _ H.KO 7 (@eL _ _ _ _ ok_WordStream_here 0 (by rfl) (by rfl) (by decide)) (by decide) (by rfl) (by intro _ ; rfl)) (by intro _ _ ; rfl))) (@sv_nil _ _))⟩
noncomputable def D_WordStream_go {g : GW} (H : Facts g) : {P : PTS // SVs g fi_WordStream_go (bodyOf (clsS 45 3)) P} := ⟨_,(@sv_cons _ _ _ _ _ _ (@sv_asg _ _ _ _ _ _ _ 1 ok_WordStream_go rfl rfl (@ev_sub _ _ _ _ _ _ _ (@eA _ _ _ _ _ _ H.KO 6 (@eL _ _ _ _ ok_WordStream_go 0 (by rfl) (by rfl) (by decide)) (by decide) (by rfl) (by intro _ ; rfl)) (@eA _ _ _ _ _ _ H.KO 7 (@eL _ _ _ _ ok_WordStream_go 0 (by rfl) (by rfl) (by decide)) (by decide) (by rfl) (by intro _ ; rfl)) (by intro _ _ ; rfl)) (by intro _ ; rfl)) (@sv_cons _ _ _ _ _ _ (@sv_if _ _ _ _ _ _ _ _ _ (@bv_cmp _ _ _ _ _ _ _ _ (@eA _ _ _ _ _ _ H.KO 0 (@eL _ _ _ _ ok_WordStream_go 1 (by rfl) (by rfl) (by decide)) (by decide) (by rfl) (by intro _ ; rfl)) (@eS _ _ _ _ _) (by rfl)) (@sv_cons _ _ _ _ _ _ (@sv_attr _ _ _ _ _ _ _ _ _ 7 H.KO (by decide) rfl (@eL _ _ _ _ ok_WordStream_go 0 (by rfl) (by rfl) (by decide)) (@ev_bin _ _ _ _ _ _ _ _ (@eA _ _ _ _ _ _ H.KO 7 (@eL _ _ _ _ ok_WordStream_go 0 (by rfl) (by rfl) (by decide)) (by decide) (by rfl) (by intro _ ; rfl)) (@eI _ _ _ _ _)) (by intro _ ; rfl)) (@sv_nil _ _)) (@sv_nil _ _)) (@sv_cons _ _ _ _ _ _ (@sv_ret _ _ _ _ _ (@eL _ _ _ _ ok_WordStream_go 1 (by rfl) (by rfl) (by decide))) (@sv_nil _ _))))⟩
noncomputable def D_WordStream_refuse {g : GW} (H : Facts g) : {P : PTS // SVs g fi_WordStream_refuse (bodyOf (clsS 45 4)) P} := ⟨_,(@sv_cons _ _ _ _ _ _ (@sv_raise _ _ _ _ _ _ _ _ _ _ _ _ H.XO ok_ParseError_init rfl H.f_ParseError_init rfl _ _ _ _ _ _ _ ok_WordStream_refuse rfl rfl (by decide) H.g_ParseError (@lv_cons _ _ _ _ _ _ _ (@eL _ _ _ _ ok_WordStream_refuse 1 (by rfl) (by rfl) (by decide)) (@lv_cons _ _ _ _ _ _ _ (@eA _ _ _ _ _ _ H.KO 3 (@eM _ _ _ _ _ _ _ _ _ 14 ok_WordStream_refuse (@eL _ _ _ _ ok_WordStream_refuse 0 (by rfl) (by rfl) (by decide)) (@lv_nil _ _ _) _ (by rfl) (by intro _ ; rfl) (by intro _ ; rfl) (by intro _ _ _ h ; cases h <;> rfl)) (by decide) (by rfl) (by intro _ ; rfl)) (@lv_nil _ _ _) (by intro _; rfl)) (by intro _; rfl)) (by intro _ ; rfl) (by intro _ ; rfl)) (@sv_nil _ _))⟩
noncomputable def D_WordStream_is_over {g : GW} (H : Facts g) : {P : PTS // SVs g fi_WordStream_is_over (bodyOf (clsS 45 5)) P} := ⟨_,(@sv_cons _ _ _ _ _ _ (@sv_ret _ _ _ _ _ (@ev_cmp _ _ _ _ _ _ _ _ (@eA _ _ _ _ _ _ H.KO 0 (@ev_sub _ _ _ _ _ _ _ (@eA _ _ _ _ _ _ H.KO 6 (@eL _ _ _ _ ok_WordStream_is_over 0 (by rfl) (by rfl) (by decide)) (by decide) (by rfl) (by intro _ ; rfl)) (@eA _ _ _ _ _ _ H.KO 7 (@eL _ _ _ _ ok_WordStream_is_over 0 (by rfl) (by rfl) (by decide)) (by decide) (by rfl) (by intro _ ; rfl)) (by intro _ _ ; rfl)) (by decide) (by rfl) (by intro _ ; rfl)) (@eS _ _ _ _ _) (by rfl))) (@sv_nil _ _))⟩
noncomputable def D_WordStream_is_one_of {g : GW} (H : Facts g) : {P : PTS // SVs g fi_WordStream_is_one_of (bodyOf (clsS 45 8)) P} := ⟨_,(@sv_cons _ _ _ _ _ _ (@sv_asg _ _ _ _ _ _ _ 2 ok_WordStream_is_one_of rfl rfl (@ev_sub _ _ _ _ _ _ _ (@eA _ _ _ _ _ _ H.KO 6 (@eL _ _ _ _ ok_WordStream_is_one_of 0 (by rfl) (by rfl) (by decide)) (by decide) (by rfl) (by intro _ ; rfl)) (@eA _ _ _ _ _ _ H.KO 7 (@eL _ _ _ _ ok_WordStream_is_one_of 0 (by rfl) (by rfl) (by decide)) (by decide) (by rfl) (by intro _ ; rfl)) (by intro _ _ ; rfl)) (by intro _ ; rfl)) (@sv_cons _ _ _ _ _ _ (@sv_ret _ _ _ _ _ (@ev_and _ _ _ _ _ _ _ _ (@ev_cmp _ _ _ _ _ _ _ _ (@eA _ _ _ _ _ _ H.KO 0 (@eL _ _ _ _ ok_WordStream_is_one_of 2 (by rfl) (by rfl) (by decide)) (by decide) (by rfl) (by intro _ ; rfl)) (@eS _ _ _ _ _) (by rfl)) (@ev_one _ _ _ _ _ _ (@ev_inKeys _ _ _ _ _ _ _ _ _ H.t_BEGIN_KINDS (@eA _ _ _ _ _ _ H.KO 1 (@eL _ _ _ _ ok_WordStream_is_one_of 2 (by rfl) (by rfl) (by decide)) (by decide) (by rfl) (by intro _ ; rfl)) (@eL _ _ _ _ ok_WordStream_is_one_of 1 (by rfl) (by rfl) (by decide)) (by rfl))))) (@sv_nil _ _)))⟩
noncomputable def D_WordStream_take_key {g : GW} (H : Facts g) : {P : PTS // SVs g fi_WordStream_take_key (bodyOf (clsS 45 10)) P} := ⟨_,(@sv_cons _ _ _ _ _ _ (@sv_if _ _ _ _ _ _ _ _ _ (@bv_not _ _ _ _ _ (@bv_plain _ _ _ _ (@eM _ _ _ _ _ _ _ _ _ 1 ok_WordStream_take_key (@ev_sub _ _ _ _ _ _ _ (@eA _ _ _ _ _ _ H.KO 6 (@eL _ _ _ _ ok_WordStream_take_key 0 (by rfl) (by rfl) (by decide)) (by decide) (by rfl) (by intro _ ; rfl)) (@eA _ _ _ _ _ _ H.KO 7 (@eL _ _ _ _ ok_WordStream_take_key 0 (by rfl) (by rfl) (by decide)) (by decide) (by rfl) (by intro _ ; rfl)) (by intro _ _ ; rfl)) (@lv_cons _ _ _ _ _ _ _ (@eL _ _ _ _ ok_WordStream_take_key 1 (by rfl) (by rfl) (by decide)) (@lv_nil _ _ _) (by intro _; rfl)) _ (by rfl) (by intro _ ; rfl) (by intro _ ; rfl) (by intro _ _ _ h ; cases h <;> rfl)) (by intro _ _ ; rfl))) (@sv_cons _ _ _ _ _ _ (@sv_ret _ _ _ _ _ (@ev_bool _ _ _ _ _)) (@sv_nil _ _)) (@sv_nil _ _)) (@sv_cons _ _ _ _ _ _ (@sv_attr _ _ _ _ _ _ _ _ _ 7 H.KO (by decide) rfl (@eL _ _ _ _ ok_WordStream_take_key 0 (by rfl) (by rfl) (by decide)) (@ev_bin _ _ _ _ _ _ _ _ (@eA _ _ _ _ _ _ H.KO 7 (@eL _ _ _ _ ok_WordStream_take_key 0 (by rfl) (by rfl) (by decide)) (by decide) (by rfl) (by intro _ ; rfl)) (@eI _ _ _ _ _)) (by intro _ ; rfl)) (@sv_cons _ _ _ _ _ _ (@sv_ret _ _ _ _ _ (@ev_bool _ _ _ _ _)) (@sv_nil _ _))))⟩
noncomputable def D_WordStream_take_sign {g : GW} (H : Facts g) : {P : PTS // SVs g fi_WordStream_take_sign (bodyOf (clsS 45 11)) P} := ⟨_,(@sv_cons _ _ _ _ _ _ (@sv_if _ _ _ _ _ _ _ _ _ (@bv_not _ _ _ _ _ (@bv_plain _ _ _ _ (@eM _ _ _ _ _ _ _ _ _ 0 ok_WordStream_take_sign (@ev_sub _ _ _ _ _ _ _ (@eA _ _ _ _ _ _ H.KO 6 (@eL _ _ _ _ ok_WordStream_take_sign 0 (by rfl) (by rfl) (by decide)) (by decide) (by rfl) (by intro _ ; rfl)) (@eA _ _ _ _ _ _ H.KO 7 (@eL _ _ _ _ ok_WordStream_take_sign 0 (by rfl) (by rfl) (by decide)) (by decide) (by rfl) (by intro _ ; rfl)) (by intro _ _ ; rfl)) (@lv_cons _ _ _ _ _ _ _ (@eL _ _ _ _ ok_WordStream_take_sign 1 (by rfl) (by rfl) (by decide)) (@lv_nil _ _ _) (by intro _; rfl)) _ (by rfl) (by intro _ ; rfl) (by intro _ ; rfl) (by intro _ _ _ h ; cases h <;> rfl)) (by intro _ _ ; rfl))) (@sv_cons _ _ _ _ _ _ (@sv_ret _ _ _ _ _ (@ev_bool _ _ _ _ _)) (@sv_nil _ _)) (@sv_nil _ _)) (@sv_cons _ _ _ _ _ _ (@sv_attr _ _ _ _ _ _ _ _ _ 7 H.KO (by decide) rfl (@eL _ _ _ _ ok_WordStream_take_sign 0 (by rfl) (by rfl) (by decide)) (@ev_bin _ _ _ _ _ _ _ _ (@eA _ _ _ _ _ _ H.KO 7 (@eL _ _ _ _ ok_WordStream_take_sign 0 (by rfl) (by rfl) (by decide)) (by decide) (by rfl) (by intro _ ; rfl)) (@eI _ _ _ _ _)) (by intro _ ; rfl)) (@sv_cons _ _ _ _ _ _ (@sv_ret _ _ _ _ _ (@ev_bool _ _ _ _ _)) (@sv_nil _ _))))⟩
noncomputable def D_WordStream_need_sign {g : GW} (H : Facts g) : {P : PTS // SVs g fi_WordStream_need_sign (bodyOf (clsS 45 13)) P} := ⟨_,(@sv_cons _ _ _ _ _ _ (@sv_if _ _ _ _ _ _ _ _ _ (@bv_not _ _ _ _ _ (@bv_plain _ _ _ _ (@eM _ _ _ _ _ _ _ _ _ 19 ok_WordStream_need_sign (@eL _ _ _ _ ok_WordStream_need_sign 0 (by rfl) (by rfl) (by decide)) (@lv_cons _ _ _ _ _ _ _ (@eL _ _ _ _ ok_WordStream_need_sign 1 (by rfl) (by rfl) (by decide)) (@lv_nil _ _ _) (by intro _; rfl)) _ (by rfl) (by intro _ ; rfl) (by intro _ ; rfl) (by intro _ _ _ h ; cases h <;> rfl)) (by intro _ _ ; rfl))) (@sv_cons _ _ _ _ _ _ (@sv_expr _ _ _ _ _ (@eM _ _ _ _ _ _ _ _ _ 5 ok_WordStream_need_sign (@eL _ _ _ _ ok_WordStream_need_sign 0 (by rfl) (by rfl) (by decide)) (@lv_cons _ _ _ _ _ _ _ (@ev_bin _ _ _ _ _ _ _ _ (@eL _ _ _ _ ok_WordStream_need_sign 1 (by rfl) (by rfl) (by decide)) (@eS _ _ _ _ _)) (@lv_nil _ _ _) (by intro _; rfl)) _ (by rfl) (by intro _ ; rfl) (by intro _ ; rfl) (by intro _ _ _ h ; cases h <;> rfl)) ok_WordStream_need_sign (by intro _ ; rfl)) (@sv_nil _ _)) (@sv_nil _ _)) (@sv_nil _ _))⟩
noncomputable def D_WordStream_need_name {g : GW} (H : Facts g) : {P : PTS // SVs g fi_WordStream_need_name (bodyOf (clsS 45 14)) P} := ⟨_,(@sv_cons _ _ _ _ _ _ (@sv_if _ _ _ _ _ _ _ _ _ (@bv_not _ _ _ _ _ (@bv_plain _ _ _ _ (@eM _ _ _ _ _ _ _ _ _ 2 ok_WordStream_need_name (@ev_sub _ _ _ _ _ _ _ (@eA _ _ _ _ _ _ H.KO 6 (@eL _ _ _ _ ok_WordStream_need_name 0 (by rfl) (by rfl) (by decide)) (by decide) (by rfl) (by intro _ ; rfl)) (@eA _ _ _ _ _ _ H.KO 7 (@eL _ _ _ _ ok_WordStream_need_name 0 (by rfl) (by rfl) (by decide)) (by decide) (by rfl) (by intro _ ; rfl)) (by intro _ _ ; rfl)) (@lv_nil _ _ _) _ (by rfl) (by intro _ ; rfl) (by intro _ ; rfl) (by intro _ _ _ h ; cases h <;> rfl)) (by intro _ _ ; rfl))) (@sv_cons _ _ _ _ _ _ (@sv_expr _ _ _ _ _ (@eM _ _ _ _ _ _ _ _ _ 5 ok_WordStream_need_name (@eL _ _ _ _ ok_WordStream_need_name 0 (by rfl) (by rfl) (by decide)) (@lv_cons _ _ _ _ _ _ _ (@eS _ _ _ _ _) (@lv_nil _ _ _) (by intro _; rfl)) _ (by rfl) (by intro _ ; rfl) (by intro _ ; rfl) (by intro _ _ _ h ; cases h <;> rfl)) ok_WordStream_need_name (by intro _ ; rfl)) (@sv_nil _ _)) (@sv_nil _ _)) (@sv_cons _ _ _ _ _ _ (@sv_ret _ _ _ _ _ (@eA _ _ _ _ _ _ H.KO 2 (@eM _ _ _ _ _ _ _ _ _ 15 ok_WordStream_need_name (@eL _ _ _ _ ok_WordStream_need_name 0 (by rfl) (by rfl) (by decide)) (@lv_nil _ _ _) _ (by rfl) (by intro _ ; rfl) (by intro _ ; rfl) (by intro _ _ _ h ; cases h <;> rfl)) (by decide) (by rfl) (by intro _ ; rfl))) (@sv_nil _ _)))⟩
noncomputable def D__law_pool_0 {g : GW} (H : Facts g) : {P : PTS // SVs g fi__law_pool (List.drop 2 (bodyOf (topS 47))) P} := ⟨_,(@sv_cons _ _ _ _ _ _ (@sv_asg _ _ _ _ _ _ _ 4 ok__law_pool rfl rfl (@ev_bin _ _ _ _ _ _ _ _ (@ev_bin _ _ _ _ _ _ _ _ (@ev_bin _ _ _ _ _ _ _ _ (@ev_bin _ _ _ _ _ _ _ _ (@ev_bin _ _ _ _ _ _ _ _ (@ev_bin _ _ _ _ _ _ _ _ (@eL _ _ _ _ ok__law_pool 3 (by rfl) (by rfl) (by decide)) (@eI _ _ _ _ _)) (@ev_bin _ _ _ _ _ _ _ _ (@ev_bin _ _ _ _ _ _ _ _ (@eI _ _ _ _ _) (@eL _ _ _ _ ok__law_pool 1 (by rfl) (by rfl) (by decide))) (@eL _ _ _ _ ok__law_pool 1 (by rfl) (by rfl) (by decide)))) (@ev_bin _ _ _ _ _ _ _ _ (@eI _ _ _ _ _) (@eL _ _ _ _ ok__law_pool 1 (by rfl) (by rfl) (by decide)))) (@eI _ _ _ _ _)) (@eI _ _ _ _ _)) (@eI _ _ _ _ _)) (by intro _ ; rfl)) (@sv_cons _ _ _ _ _ _ (@sv_ret _ _ _ _ _ (@ev_mlst _ _ _ _ _ (@lv_cons _ _ _ _ _ _ _ (@ev_ifexp _ _ _ _ _ _ _ _ _ (@bv_cmp _ _ _ _ _ _ _ _ (@eL _ _ _ _ ok__law_pool 3 (by rfl) (by rfl) (by decide)) (@ev_pow _ _ _ _ _ _ _ (@eI _ _ _ _ _) (@eI _ _ _ _ _)) (by rfl)) (@eL _ _ _ _ ok__law_pool 3 (by rfl) (by rfl) (by decide)) (@eI _ _ _ _ _)) (@lv_cons _ _ _ _ _ _ _ (@eL _ _ _ _ ok__law_pool 4 (by rfl) (by rfl) (by decide)) (@lv_nil _ _ _) (by intro _; rfl)) (by intro _; rfl)))) (@sv_nil _ _)))⟩
noncomputable def D__law_pool {g : GW} (H : Facts g) : {P : PTS // SVs g fi__law_pool (bodyOf (topS 47)) P} := ⟨_,(@sv_cons _ _ _ _ _ _ (@sv_asg _ _ _ _ _ _ _ 2 ok__law_pool rfl rfl (@ev_ifexp _ _ _ _ _ _ _ _ _ (@bv_cmp _ _ _ _ _ _ _ _ (@eL _ _ _ _ ok__law_pool 1 (by rfl) (by rfl) (by decide)) (@eB _ _ _ _ _ _ _ _ .len H.IO ok__law_pool H.b_len bb_len (@lv_cons _ _ _ _ _ _ _ (@eL _ _ _ _ ok__law_pool 0 (by rfl) (by rfl) (by decide)) (@lv_nil _ _ _) (by intro _; rfl)) (by rfl) (by decide) (by decide) (by intro _ ; rfl) (by intro _ ; rfl)) (by rfl)) (@ev_subScr _ _ _ _ _ _ _ (@eL _ _ _ _ ok__law_pool 0 (by rfl) (by rfl) (by decide)) (@eL _ _ _ _ ok__law_pool 1 (by rfl) (by rfl) (by decide)) (by intro _ _ ; rfl)) (@eI _ _ _ _ _)) (by intro _ ; rfl)) (@sv_cons _ _ _ _ _ _ (@sv_asg _ _ _ _ _ _ _ 3 ok__law_pool rfl rfl (@eB _ _ _ _ _ _ _ _ .max H.IO ok__law_pool H.b_max bb_max (@lv_cons _ _ _ _ _ _ _ (@eL _ _ _ _ ok__law_pool 2 (by rfl) (by rfl) (by decide)) (@lv_cons _ _ _ _ _ _ _ (@ev_bin _ _ _ _ _ _ _ _ (@ev_neg _ _ _ _ _ (@eI _ _ _ _ _)) (@eL _ _ _ _ ok__law_pool 2 (by rfl) (by rfl) (by decide))) (@lv_nil _ _ _) (by intro _; rfl)) (by intro _; rfl)) (by rfl) (by decide) (by decide) (by intro _ ; rfl) (by intro _ ; rfl)) (by intro _ ; rfl)) (@Subtype.property _ _ (D__law_pool_0 H))))⟩
noncomputable def D__law_take {g : GW} (H : Facts g) : {P : PTS // SVs g fi__law_take (bodyOf (topS 48)) P} := ⟨_,(@sv_cons _ _ _ _ _ _ (@sv_if _ _ _ _ _ _ _ _ _ (@bv_cmp _ _ _ _ _ _ _ _ (@ev_sub _ _ _ _ _ _ _ (@eL _ _ _ _ ok__law_take 0 (by rfl) (by rfl) (by decide)) (@eI _ _ _ _ _) (by intro _ _ ; rfl)) (@eI _ _ _ _ _) (by rfl)) (@sv_cons _ _ _ _ _ _ (@sv_asg _ _ _ _ _ _ _ 2 ok__law_take rfl rfl (@ev_bin _ _ _ _ _ _ _ _ (@ev_sub _ _ _ _ _ _ _ (@eL _ _ _ _ ok__law_take 0 (by rfl) (by rfl) (by decide)) (@eI _ _ _ _ _) (by intro _ _ ; rfl)) (@eL _ _ _ _ ok__law_take 1 (by rfl) (by rfl) (by decide))) (by intro _ ; rfl)) (@sv_cons _ _ _ _ _ _ (@sv_item _ _ _ _ _ _ _ _ _ _ (@eL _ _ _ _ ok__law_take 0 (by rfl) (by rfl) (by decide)) (@eI _ _ _ _ _) (@ev_bin _ _ _ _ _ _ _ _ (@ev_sub _ _ _ _ _ _ _ (@eL _ _ _ _ ok__law_take 0 (by rfl) (by rfl) (by decide)) (@eI _ _ _ _ _) (by intro _ _ ; rfl)) (@eL _ _ _ _ ok__law_take 1 (by rfl) (by rfl) (by decide))) (by intro _ ; rfl)) (@sv_cons _ _ _ _ _ _ (@sv_ret _ _ _ _ _ (@eL _ _ _ _ ok__law_take 2 (by rfl) (by rfl) (by decide))) (@sv_nil _ _)))) (@sv_nil _ _)) (@sv_cons _ _ _ _ _ _ (@sv_item _ _ _ _ _ _ _ _ _ _ (@eL _ _ _ _ ok__law_take 0 (by rfl) (by rfl) (by decide)) (@eI _ _ _ _ _) (@ev_bin _ _ _ _ _ _ _ _ (@ev_bin _ _ _ _ _ _ _ _ (@ev_bin _ _ _ _ _ _ _ _ (@ev_sub _ _ _ _ _ _ _ (@eL _ _ _ _ ok__law_take 0 (by rfl) (by rfl) (by decide)) (@eI _ _ _ _ _) (by intro _ _ ; rfl)) (@eI _ _ _ _ _)) (@eI _ _ _ _ _)) (@eI _ _ _ _ _)) (by intro _ ; rfl)) (@sv_cons _ _ _ _ _ _ (@sv_ret _ _ _ _ _ (@ev_bin _ _ _ _ _ _ _ _ (@ev_bin _ _ _ _ _ _ _ _ (@ev_bin _ _ _ _ _ _ _ _ (@ev_bin _ _ _ _ _ _ _ _ (@ev_sub _ _ _ _ _ _ _ (@eL _ _ _ _ ok__law_take 0 (by rfl) (by rfl) (by decide)) (@eI _ _ _ _ _) (by intro _ _ ; rfl)) (@ev_sub _ _ _ _ _ _ _ (@eL _ _ _ _ ok__law_take 0 (by rfl) (by rfl) (by decide)) (@eI _ _ _ _ _) (by intro _ _ ; rfl))) (@eI _ _ _ _ _)) (@eI _ _ _ _ _)) (@eL _ _ _ _ ok__law_take 1 (by rfl) (by rfl) (by decide)))) (@sv_nil _ _))))⟩
noncomputable def D__law_one {g : GW} (H : Facts g) : {P : PTS // SVs g fi__law_one (bodyOf (topS 49)) P} := ⟨_,(@sv_cons _ _ _ _ _ _ (@sv_ret _ _ _ _ _ (@ev_sub _ _ _ _ _ _ _ (@eL _ _ _ _ ok__law_one 1 (by rfl) (by rfl) (by decide)) (@eC _ _ _ _ _ _ _ _ ok__law_one H.g__law_take H.k__law_take (@lv_cons _ _ _ _ _ _ _ (@eL _ _ _ _ ok__law_one 0 (by rfl) (by rfl) (by decide)) (@lv_cons _ _ _ _ _ _ _ (@eB _ _ _ _ _ _ _ _ .len H.IO ok__law_one H.b_len bb_len (@lv_cons _ _ _ _ _ _ _ (@eL _ _ _ _ ok__law_one 1 (by rfl) (by rfl) (by decide)) (@lv_nil _ _ _) (by intro _; rfl)) (by rfl) (by decide) (by decide) (by intro _ ; rfl) (by intro _ ; rfl)) (@lv_nil _ _ _) (by intro _; rfl)) (by intro _; rfl)) (by rfl) (by decide) (by intro _ ; rfl) (by intro _ _ _ h ; cases h <;> rfl)) (by intro _ _ ; rfl))) (@sv_nil _ _))⟩
noncomputable def D__law_called_0 {g : GW} (H : Facts g) : {P : PTS // SVs g fi__law_called (List.drop 1 (bodyOf (topS 50))) P} := ⟨_,(@sv_cons _ _ _ _ _ _ (@sv_ret _ _ _ _ _ (@eC _ _ _ _ _ _ _ _ ok__law_called H.g__law_one H.k__law_one (@lv_cons _ _ _ _ _ _ _ (@eL _ _ _ _ ok__law_called 0 (by rfl) (by rfl) (by decide)) (@lv_cons _ _ _ _ _ _ _ (@ev_bin _ _ _ _ _ _ _ _ (@eL _ _ _ _ ok__law_called 1 (by rfl) (by rfl) (by decide)) (@ev_lstC _ _ [.tup [.str "\"savepoint\"",.str "savepoint"],.tup [.str "\"\"",.str ""],.tup [.str "wal",.str "wal"]] _ _ rfl rfl)) (@lv_nil _ _ _) (by intro _; rfl)) (by intro _; rfl)) (by rfl) (by decide) (by intro _ ; rfl) (by intro _ _ _ h ; cases h <;> rfl))) (@sv_nil _ _))⟩
noncomputable def D__law_called {g : GW} (H : Facts g) : {P : PTS // SVs g fi__law_called (bodyOf (topS 50)) P} := ⟨_,(@sv_cons _ _ _ _ _ _ (@sv_asg _ _ _ _ _ _ _ 1 ok__law_called rfl rfl (@ev_lstC _ _ [.tup [.str "s",.str "s"],.tup [.str "Point_1",.str "Point_1"],.tup [.str "\"to\"",.str "to"],.tup [.str "[a b]",.str "a b"],.tup [.str "`x`",.str "x"],.tup [.str "\"q\"\"r\"",.str "q\"r"]] _ _ rfl rfl) (by intro _ ; rfl)) (@Subtype.property _ _ (D__law_called_0 H)))⟩
noncomputable def D__law_worth_0 {g : GW} (H : Facts g) : {P : PTS // SVs g fi__law_worth (thenB (stA (bodyOf (topS 51)) 1)) P} := ⟨_,(@sv_cons _ _ _ _ _ _ (@sv_ret _ _ _ _ _ (@eC _ _ _ _ _ _ _ _ ok__law_worth H.g__law_one H.k__law_one (@lv_cons _ _ _ _ _ _ _ (@eL _ _ _ _ ok__law_worth 0 (by rfl) (by rfl) (by decide)) (@lv_cons _ _ _ _ _ _ _ (@ev_lstC _ _ [.tup [.str "ON",.str "ON"],.tup [.str "Full",.str "Full"],.tup [.str "delete",.str "delete"],.tup [.str "\"on\"",.str "on"]] _ _ rfl rfl) (@lv_nil _ _ _) (by intro _; rfl)) (by intro _; rfl)) (by rfl) (by decide) (by intro _ ; rfl) (by intro _ _ _ h ; cases h <;> rfl))) (@sv_nil _ _))⟩
noncomputable def D__law_worth_1 {g : GW} (H : Facts g) : {P : PTS // SVs g fi__law_worth (thenB (stA (bodyOf (topS 51)) 4)) P} := ⟨_,(@sv_cons _ _ _ _ _ _ (@sv_ret _ _ _ _ _ (@ev_tup _ _ _ _ _ _ (@lv_cons _ _ _ _ _ _ _ (@ev_bin _ _ _ _ _ _ _ _ (@ev_bin _ _ _ _ _ _ _ _ (@eS _ _ _ _ _) (@eC _ _ _ _ _ _ _ _ ok__law_worth H.g__law_one H.k__law_one (@lv_cons _ _ _ _ _ _ _ (@eL _ _ _ _ ok__law_worth 0 (by rfl) (by rfl) (by decide)) (@lv_cons _ _ _ _ _ _ _ (@ev_lstC _ _ [.str "",.str " "] _ _ rfl rfl) (@lv_nil _ _ _) (by intro _; rfl)) (by intro _; rfl)) (by rfl) (by decide) (by intro _ ; rfl) (by intro _ _ _ h ; cases h <;> rfl))) (@eB _ _ _ _ _ _ _ _ .str H.IO ok__law_worth H.b_str bb_str (@lv_cons _ _ _ _ _ _ _ (@eL _ _ _ _ ok__law_worth 2 (by rfl) (by rfl) (by decide)) (@lv_nil _ _ _) (by intro _; rfl)) (by rfl) (by decide) (by decide) (by intro _ ; rfl) (by intro _ ; rfl))) (@lv_cons _ _ _ _ _ _ _ (@ev_bin _ _ _ _ _ _ _ _ (@eI _ _ _ _ _) (@eL _ _ _ _ ok__law_worth 2 (by rfl) (by rfl) (by decide))) (@lv_nil _ _ _) (by intro _; rfl)) (by intro _; rfl)))) (@sv_nil _ _))⟩
noncomputable def D__law_worth_2 {g : GW} (H : Facts g) : {P : PTS // SVs g fi__law_worth (List.drop 3 (bodyOf (topS 51))) P} := ⟨_,(@sv_cons _ _ _ _ _ _ (@sv_asg _ _ _ _ _ _ _ 2 ok__law_worth rfl rfl (@eC _ _ _ _ _ _ _ _ ok__law_worth H.g__law_one H.k__law_one (@lv_cons _ _ _ _ _ _ _ (@eL _ _ _ _ ok__law_worth 0 (by rfl) (by rfl) (by decide)) (@lv_cons _ _ _ _ _ _ _ (@ev_lst _ _ _ _ _ (@lv_cons _ _ _ _ _ _ _ (@eI _ _ _ _ _) (@lv_cons _ _ _ _ _ _ _ (@eI _ _ _ _ _) (@lv_cons _ _ _ _ _ _ _ (@eI _ _ _ _ _) (@lv_cons _ _ _ _ _ _ _ (@ev_bin _ _ _ _ _ _ _ _ (@ev_pow _ _ _ _ _ _ _ (@eI _ _ _ _ _) (@eI _ _ _ _ _)) (@eI _ _ _ _ _)) (@lv_cons _ _ _ _ _ _ _ (@ev_pow _ _ _ _ _ _ _ (@eI _ _ _ _ _) (@eI _ _ _ _ _)) (@lv_nil _ _ _) (by intro _; rfl)) (by intro _; rfl)) (by intro _; rfl)) (by intro _; rfl)) (by intro _; rfl))) (@lv_nil _ _ _) (by intro _; rfl)) (by intro _; rfl)) (by rfl) (by decide) (by intro _ ; rfl) (by intro _ _ _ h ; cases h <;> rfl)) (by intro _ ; rfl)) (@sv_cons _ _ _ _ _ _ (@sv_if _ _ _ _ _ _ _ _ _ (@bv_cmp _ _ _ _ _ _ _ _ (@eL _ _ _ _ ok__law_worth 1 (by rfl) (by rfl) (by decide)) (@eI _ _ _ _ _) (by rfl)) (@Subtype.property _ _ (D__law_worth_1 H)) (@sv_nil _ _)) (@sv_cons _ _ _ _ _ _ (@sv_ret _ _ _ _ _ (@ev_tup _ _ _ _ _ _ (@lv_cons _ _ _ _ _ _ _ (@eB _ _ _ _ _ _ _ _ .str H.IO ok__law_worth H.b_str bb_str (@lv_cons _ _ _ _ _ _ _ (@eL _ _ _ _ ok__law_worth 2 (by rfl) (by rfl) (by decide)) (@lv_nil _ _ _) (by intro _; rfl)) (by rfl) (by decide) (by decide) (by intro _ ; rfl) (by intro _ ; rfl)) (@lv_cons _ _ _ _ _ _ _ (@eL _ _ _ _ ok__law_worth 2 (by rfl) (by rfl) (by decide)) (@lv_nil _ _ _) (by intro _; rfl)) (by intro _; rfl)))) (@sv_nil _ _))))⟩
noncomputable def D__law_worth {g : GW} (H : Facts g) : {P : PTS // SVs g fi__law_worth (bodyOf (topS 51)) P} := ⟨_,(@sv_cons _ _ _ _ _ _ (@sv_asg _ _ _ _ _ _ _ 1 ok__law_worth rfl rfl (@eC _ _ _ _ _ _ _ _ ok__law_worth H.g__law_take H.k__law_take (@lv_cons _ _ _ _ _ _ _ (@eL _ _ _ _ ok__law_worth 0 (by rfl) (by rfl) (by decide)) (@lv_cons _ _ _ _ _ _ _ (@eI _ _ _ _ _) (@lv_nil _ _ _) (by intro _; rfl)) (by intro _; rfl)) (by rfl) (by decide) (by intro _ ; rfl) (by intro _ _ _ h ; cases h <;> rfl)) (by intro _ ; rfl)) (@sv_cons _ _ _ _ _ _ (@sv_if _ _ _ _ _ _ _ _ _ (@bv_cmp _ _ _ _ _ _ _ _ (@eL _ _ _ _ ok__law_worth 1 (by rfl) (by rfl) (by decide)) (@eI _ _ _ _ _) (by rfl)) (@Subtype.property _ _ (D__law_worth_0 H)) (@sv_nil _ _)) (@sv_cons _ _ _ _ _ _ (@sv_if _ _ _ _ _ _ _ _ _ (@bv_cmp _ _ _ _ _ _ _ _ (@eL _ _ _ _ ok__law_worth 1 (by rfl) (by rfl) (by decide)) (@eI _ _ _ _ _) (by rfl)) (@sv_cons _ _ _ _ _ _ (@sv_ret _ _ _ _ _ (@ev_tupC _ _ [.str "'it''s'",.str "it's"] _ _ _ rfl rfl)) (@sv_nil _ _)) (@sv_nil _ _)) (@Subtype.property _ _ (D__law_worth_2 H)))))⟩
noncomputable def D__law_begin_0 {g : GW} (H : Facts g) : {P : PTS // SVs g fi__law_begin (List.drop 2 (bodyOf (topS 52))) P} := ⟨_,(@sv_cons _ _ _ _ _ _ (@sv_ret _ _ _ _ _ (@ev_tup _ _ _ _ _ _ (@lv_cons _ _ _ _ _ _ _ (@eL _ _ _ _ ok__law_begin 2 (by rfl) (by rfl) (by decide)) (@lv_cons _ _ _ _ _ _ _ (@ev_tup _ _ _ _ _ _ (@lv_cons _ _ _ _ _ _ _ (@eS _ _ _ _ _) (@lv_cons _ _ _ _ _ _ _ (@ev_ifexp _ _ _ _ _ _ _ _ _ (@bv_cmp _ _ _ _ _ _ _ _ (@eL _ _ _ _ ok__law_begin 1 (by rfl) (by rfl) (by decide)) (@eS _ _ _ _ _) (by rfl)) (@ev_strM _ _ _ _ _ _ _ _ _ .lower rfl (@ev_sliceFrom _ _ _ _ _ _ _ _ (@eL _ _ _ _ ok__law_begin 1 (by rfl) (by rfl) (by decide)) (@eI _ _ _ _ _)) (@lv_nil _ _ _) _ (by intro _ ; rfl) (by intro _ ; rfl) (by intro _ _ _ h ; cases h <;> rfl)) (@eS _ _ _ _ _)) (@lv_nil _ _ _) (by intro _; rfl)) (by intro _; rfl))) (@lv_nil _ _ _) (by intro _; rfl)) (by intro _; rfl)))) (@sv_nil _ _))⟩
noncomputable def D__law_begin {g : GW} (H : Facts g) : {P : PTS // SVs g fi__law_begin (bodyOf (topS 52)) P} := ⟨_,(@sv_cons _ _ _ _ _ _ (@sv_asg _ _ _ _ _ _ _ 1 ok__law_begin rfl rfl (@eC _ _ _ _ _ _ _ _ ok__law_begin H.g__law_one H.k__law_one (@lv_cons _ _ _ _ _ _ _ (@eL _ _ _ _ ok__law_begin 0 (by rfl) (by rfl) (by decide)) (@lv_cons _ _ _ _ _ _ _ (@ev_lstC _ _ [.str "",.str " DEFERRED",.str " IMMEDIATE",.str " EXCLUSIVE"] _ _ rfl rfl) (@lv_nil _ _ _) (by intro _; rfl)) (by intro _; rfl)) (by rfl) (by decide) (by intro _ ; rfl) (by intro _ _ _ h ; cases h <;> rfl)) (by intro _ ; rfl)) (@sv_cons _ _ _ _ _ _ (@sv_asg _ _ _ _ _ _ _ 2 ok__law_begin rfl rfl (@ev_bin _ _ _ _ _ _ _ _ (@ev_bin _ _ _ _ _ _ _ _ (@eS _ _ _ _ _) (@eL _ _ _ _ ok__law_begin 1 (by rfl) (by rfl) (by decide))) (@eC _ _ _ _ _ _ _ _ ok__law_begin H.g__law_one H.k__law_one (@lv_cons _ _ _ _ _ _ _ (@eL _ _ _ _ ok__law_begin 0 (by rfl) (by rfl) (by decide)) (@lv_cons _ _ _ _ _ _ _ (@ev_lstC _ _ [.str "",.str " TRANSACTION"] _ _ rfl rfl) (@lv_nil _ _ _) (by intro _; rfl)) (by intro _; rfl)) (by rfl) (by decide) (by intro _ ; rfl) (by intro _ _ _ h ; cases h <;> rfl))) (by intro _ ; rfl)) (@Subtype.property _ _ (D__law_begin_0 H))))⟩
noncomputable def D__law_statement_0 {g : GW} (H : Facts g) : {P : PTS // SVs g fi__law_statement (thenB (stA (bodyOf (topS 53)) 1)) P} := ⟨_,(@sv_cons _ _ _ _ _ _ (@sv_tup _ _ _ _ _ _ _ _ [2,3] ok__law_statement (.cons rfl rfl (.cons rfl rfl .nil)) (@eC _ _ _ _ _ _ _ _ ok__law_statement H.g__law_begin H.k__law_begin (@lv_cons _ _ _ _ _ _ _ (@eL _ _ _ _ ok__law_statement 0 (by rfl) (by rfl) (by decide)) (@lv_nil _ _ _) (by intro _; rfl)) (by rfl) (by decide) (by intro _ ; rfl) (by intro _ _ _ h ; cases h <;> rfl)) (by intro _ ; rfl) (by intro _ ; rfl) (by intro _ ; rfl) (by intro _ ; rfl)) (@sv_cons _ _ _ _ _ _ (@sv_ret _ _ _ _ _ (@ev_tup _ _ _ _ _ _ (@lv_cons _ _ _ _ _ _ _ (@eL _ _ _ _ ok__law_statement 2 (by rfl) (by rfl) (by decide)) (@lv_cons _ _ _ _ _ _ _ (@eS _ _ _ _ _) (@lv_cons _ _ _ _ _ _ _ (@eL _ _ _ _ ok__law_statement 3 (by rfl) (by rfl) (by decide)) (@lv_nil _ _ _) (by intro _; rfl)) (by intro _; rfl)) (by intro _; rfl)))) (@sv_nil _ _)))⟩
noncomputable def D__law_statement_1 {g : GW} (H : Facts g) : {P : PTS // SVs g fi__law_statement (thenB (stA (bodyOf (topS 53)) 2)) P} := ⟨_,(@sv_cons _ _ _ _ _ _ (@sv_ret _ _ _ _ _ (@ev_tup _ _ _ _ _ _ (@lv_cons _ _ _ _ _ _ _ (@ev_bin _ _ _ _ _ _ _ _ (@eC _ _ _ _ _ _ _ _ ok__law_statement H.g__law_one H.k__law_one (@lv_cons _ _ _ _ _ _ _ (@eL _ _ _ _ ok__law_statement 0 (by rfl) (by rfl) (by decide)) (@lv_cons _ _ _ _ _ _ _ (@ev_lstC _ _ [.str "COMMIT",.str "END"] _ _ rfl rfl) (@lv_nil _ _ _) (by intro _; rfl)) (by intro _; rfl)) (by rfl) (by decide) (by intro _ ; rfl) (by intro _ _ _ h ; cases h <;> rfl)) (@eC _ _ _ _ _ _ _ _ ok__law_statement H.g__law_one H.k__law_one (@lv_cons _ _ _ _ _ _ _ (@eL _ _ _ _ ok__law_statement 0 (by rfl) (by rfl) (by decide)) (@lv_cons _ _ _ _ _ _ _ (@ev_lstC _ _ [.str "",.str " TRANSACTION"] _ _ rfl rfl) (@lv_nil _ _ _) (by intro _; rfl)) (by intro _; rfl)) (by rfl) (by decide) (by intro _ ; rfl) (by intro _ _ _ h ; cases h <;> rfl))) (@lv_cons _ _ _ _ _ _ _ (@eS _ _ _ _ _) (@lv_cons _ _ _ _ _ _ _ (@ev_tupC _ _ [.str "commit"] _ _ _ rfl rfl) (@lv_nil _ _ _) (by intro _; rfl)) (by intro _; rfl)) (by intro _; rfl)))) (@sv_nil _ _))⟩
noncomputable def D__law_statement_2 {g : GW} (H : Facts g) : {P : PTS // SVs g fi__law_statement (thenB (stA (bodyOf (topS 53)) 3)) P} := ⟨_,(@sv_cons _ _ _ _ _ _ (@sv_ret _ _ _ _ _ (@ev_tup _ _ _ _ _ _ (@lv_cons _ _ _ _ _ _ _ (@ev_bin _ _ _ _ _ _ _ _ (@eS _ _ _ _ _) (@eC _ _ _ _ _ _ _ _ ok__law_statement H.g__law_one H.k__law_one (@lv_cons _ _ _ _ _ _ _ (@eL _ _ _ _ ok__law_statement 0 (by rfl) (by rfl) (by decide)) (@lv_cons _ _ _ _ _ _ _ (@ev_lstC _ _ [.str "",.str " TRANSACTION"] _ _ rfl rfl) (@lv_nil _ _ _) (by intro _; rfl)) (by intro _; rfl)) (by rfl) (by decide) (by intro _ ; rfl) (by intro _ _ _ h ; cases h <;> rfl))) (@lv_cons _ _ _ _ _ _ _ (@eS _ _ _ _ _) (@lv_cons _ _ _ _ _ _ _ (@ev_tupC _ _ [.str "rollback",.none] _ _ _ rfl rfl) (@lv_nil _ _ _) (by intro _; rfl)) (by intro _; rfl)) (by intro _; rfl)))) (@sv_nil _ _))⟩
noncomputable def D__law_statement_3 {g : GW} (H : Facts g) : {P : PTS // SVs g fi__law_statement (thenB (stA (bodyOf (topS 53)) 6)) P} := ⟨_,(@sv_cons _ _ _ _ _ _ (@sv_asg _ _ _ _ _ _ _ 2 ok__law_statement rfl rfl (@ev_bin _ _ _ _ _ _ _ _ (@ev_bin _ _ _ _ _ _ _ _ (@ev_bin _ _ _ _ _ _ _ _ (@eS _ _ _ _ _) (@eC _ _ _ _ _ _ _ _ ok__law_statement H.g__law_one H.k__law_one (@lv_cons _ _ _ _ _ _ _ (@eL _ _ _ _ ok__law_statement 0 (by rfl) (by rfl) (by decide)) (@lv_cons _ _ _ _ _ _ _ (@ev_lstC _ _ [.str "",.str " TRANSACTION"] _ _ rfl rfl) (@lv_nil _ _ _) (by intro _; rfl)) (by intro _; rfl)) (by rfl) (by decide) (by intro _ ; rfl) (by intro _ _ _ h ; cases h <;> rfl))) (@eS _ _ _ _ _)) (@eC _ _ _ _ _ _ _ _ ok__law_statement H.g__law_one H.k__law_one (@lv_cons _ _ _ _ _ _ _ (@eL _ _ _ _ ok__law_statement 0 (by rfl) (by rfl) (by decide)) (@lv_cons _ _ _ _ _ _ _ (@ev_lstC _ _ [.str "",.str " SAVEPOINT"] _ _ rfl rfl) (@lv_nil _ _ _) (by intro _; rfl)) (by intro _; rfl)) (by rfl) (by decide) (by intro _ ; rfl) (by intro _ _ _ h ; cases h <;> rfl))) (by intro _ ; rfl)) (@sv_cons _ _ _ _ _ _ (@sv_ret _ _ _ _ _ (@ev_tup _ _ _ _ _ _ (@lv_cons _ _ _ _ _ _ _ (@eL _ _ _ _ ok__law_statement 2 (by rfl) (by rfl) (by decide)) (@lv_cons _ _ _ _ _ _ _ (@ev_bin _ _ _ _ _ _ _ _ (@eS _ _ _ _ _) (@eL _ _ _ _ ok__law_statement 4 (by rfl) (by rfl) (by decide))) (@lv_cons _ _ _ _ _ _ _ (@ev_tup _ _ _ _ _ _ (@lv_cons _ _ _ _ _ _ _ (@eS _ _ _ _ _) (@lv_cons _ _ _ _ _ _ _ (@eL _ _ _ _ ok__law_statement 5 (by rfl) (by rfl) (by decide)) (@lv_nil _ _ _) (by intro _; rfl)) (by intro _; rfl))) (@lv_nil _ _ _) (by intro _; rfl)) (by intro _; rfl)) (by intro _; rfl)))) (@sv_nil _ _)))⟩
noncomputable def D__law_statement_4 {g : GW} (H : Facts g) : {P : PTS // SVs g fi__law_statement (thenB (stA (bodyOf (topS 53)) 8)) P} := ⟨_,(@sv_cons _ _ _ _ _ _ (@sv_ret _ _ _ _ _ (@ev_tup _ _ _ _ _ _ (@lv_cons _ _ _ _ _ _ _ (@ev_bin _ _ _ _ _ _ _ _ (@eS _ _ _ _ _) (@eC _ _ _ _ _ _ _ _ ok__law_statement H.g__law_one H.k__law_one (@lv_cons _ _ _ _ _ _ _ (@eL _ _ _ _ ok__law_statement 0 (by rfl) (by rfl) (by decide)) (@lv_cons _ _ _ _ _ _ _ (@ev_lstC _ _ [.str "",.str " SAVEPOINT"] _ _ rfl rfl) (@lv_nil _ _ _) (by intro _; rfl)) (by intro _; rfl)) (by rfl) (by decide) (by intro _ ; rfl) (by intro _ _ _ h ; cases h <;> rfl))) (@lv_cons _ _ _ _ _ _ _ (@ev_bin _ _ _ _ _ _ _ _ (@eS _ _ _ _ _) (@eL _ _ _ _ ok__law_statement 4 (by rfl) (by rfl) (by decide))) (@lv_cons _ _ _ _ _ _ _ (@ev_tup _ _ _ _ _ _ (@lv_cons _ _ _ _ _ _ _ (@eS _ _ _ _ _) (@lv_cons _ _ _ _ _ _ _ (@eL _ _ _ _ ok__law_statement 5 (by rfl) (by rfl) (by decide)) (@lv_nil _ _ _) (by intro _; rfl)) (by intro _; rfl))) (@lv_nil _ _ _) (by intro _; rfl)) (by intro _; rfl)) (by intro _; rfl)))) (@sv_nil _ _))⟩
noncomputable def D__law_statement_5 {g : GW} (H : Facts g) : {P : PTS // SVs g fi__law_statement (List.drop 11 (bodyOf (topS 53))) P} := ⟨_,(@sv_cons _ _ _ _ _ _ (@sv_ret _ _ _ _ _ (@ev_tup _ _ _ _ _ _ (@lv_cons _ _ _ _ _ _ _ (@eS _ _ _ _ _) (@lv_cons _ _ _ _ _ _ _ (@ev_bin _ _ _ _ _ _ _ _ (@ev_bin _ _ _ _ _ _ _ _ (@eS _ _ _ _ _) (@eL _ _ _ _ ok__law_statement 4 (by rfl) (by rfl) (by decide))) (@eL _ _ _ _ ok__law_statement 8 (by rfl) (by rfl) (by decide))) (@lv_cons _ _ _ _ _ _ _ (@ev_tup _ _ _ _ _ _ (@lv_cons _ _ _ _ _ _ _ (@eS _ _ _ _ _) (@lv_cons _ _ _ _ _ _ _ (@eL _ _ _ _ ok__law_statement 5 (by rfl) (by rfl) (by decide)) (@lv_cons _ _ _ _ _ _ _ (@ev_ifexp _ _ _ _ _ _ _ _ _ (@bv_cmp _ _ _ _ _ _ _ _ (@eL _ _ _ _ ok__law_statement 8 (by rfl) (by rfl) (by decide)) (@eS _ _ _ _ _) (by rfl)) (@eL _ _ _ _ ok__law_statement 7 (by rfl) (by rfl) (by decide)) (@ev_none _ _ _ _)) (@lv_nil _ _ _) (by intro _; rfl)) (by intro _; rfl)) (by intro _; rfl))) (@lv_nil _ _ _) (by intro _; rfl)) (by intro _; rfl)) (by intro _; rfl)))) (@sv_nil _ _))⟩
noncomputable def D__law_statement_6 {g : GW} (H : Facts g) : {P : PTS // SVs g fi__law_statement (List.drop 10 (bodyOf (topS 53))) P} := ⟨_,(@sv_cons _ _ _ _ _ _ (@sv_asg _ _ _ _ _ _ _ 8 ok__law_statement rfl rfl (@eC _ _ _ _ _ _ _ _ ok__law_statement H.g__law_one H.k__law_one (@lv_cons _ _ _ _ _ _ _ (@eL _ _ _ _ ok__law_statement 0 (by rfl) (by rfl) (by decide)) (@lv_cons _ _ _ _ _ _ _ (@ev_lst _ _ _ _ _ (@lv_cons _ _ _ _ _ _ _ (@ev_bin _ _ _ _ _ _ _ _ (@eS _ _ _ _ _) (@eL _ _ _ _ ok__law_statement 6 (by rfl) (by rfl) (by decide))) (@lv_cons _ _ _ _ _ _ _ (@ev_bin _ _ _ _ _ _ _ _ (@eS _ _ _ _ _) (@eL _ _ _ _ ok__law_statement 6 (by rfl) (by rfl) (by decide))) (@lv_cons _ _ _ _ _ _ _ (@ev_bin _ _ _ _ _ _ _ _ (@ev_bin _ _ _ _ _ _ _ _ (@eS _ _ _ _ _) (@eL _ _ _ _ ok__law_statement 6 (by rfl) (by rfl) (by decide))) (@eS _ _ _ _ _)) (@lv_cons _ _ _ _ _ _ _ (@ev_bin _ _ _ _ _ _ _ _ (@ev_bin _ _ _ _ _ _ _ _ (@eS _ _ _ _ _) (@eL _ _ _ _ ok__law_statement 6 (by rfl) (by rfl) (by decide))) (@eS _ _ _ _ _)) (@lv_cons _ _ _ _ _ _ _ (@eS _ _ _ _ _) (@lv_nil _ _ _) (by intro _; rfl)) (by intro _; rfl)) (by intro _; rfl)) (by intro _; rfl)) (by intro _; rfl))) (@lv_nil _ _ _) (by intro _; rfl)) (by intro _; rfl)) (by rfl) (by decide) (by intro _ ; rfl) (by intro _ _ _ h ; cases h <;> rfl)) (by intro _ ; rfl)) (@Subtype.property _ _ (D__law_statement_5 H)))⟩
noncomputable def D__law_statement_7 {g : GW} (H : Facts g) : {P : PTS // SVs g fi__law_statement (List.drop 7 (bodyOf (topS 53))) P} := ⟨_,(@sv_cons _ _ _ _ _ _ (@sv_if _ _ _ _ _ _ _ _ _ (@bv_cmp _ _ _ _ _ _ _ _ (@eL _ _ _ _ ok__law_statement 1 (by rfl) (by rfl) (by decide)) (@eI _ _ _ _ _) (by rfl)) (@sv_cons _ _ _ _ _ _ (@sv_ret _ _ _ _ _ (@ev_tup _ _ _ _ _ _ (@lv_cons _ _ _ _ _ _ _ (@eS _ _ _ _ _) (@lv_cons _ _ _ _ _ _ _ (@ev_bin _ _ _ _ _ _ _ _ (@eS _ _ _ _ _) (@eL _ _ _ _ ok__law_statement 4 (by rfl) (by rfl) (by decide))) (@lv_cons _ _ _ _ _ _ _ (@ev_tup _ _ _ _ _ _ (@lv_cons _ _ _ _ _ _ _ (@eS _ _ _ _ _) (@lv_cons _ _ _ _ _ _ _ (@eL _ _ _ _ ok__law_statement 5 (by rfl) (by rfl) (by decide)) (@lv_nil _ _ _) (by intro _; rfl)) (by intro _; rfl))) (@lv_nil _ _ _) (by intro _; rfl)) (by intro _; rfl)) (by intro _; rfl)))) (@sv_nil _ _)) (@sv_nil _ _)) (@sv_cons _ _ _ _ _ _ (@sv_if _ _ _ _ _ _ _ _ _ (@bv_cmp _ _ _ _ _ _ _ _ (@eL _ _ _ _ ok__law_statement 1 (by rfl) (by rfl) (by decide)) (@eI _ _ _ _ _) (by rfl)) (@Subtype.property _ _ (D__law_statement_4 H)) (@sv_nil _ _)) (@sv_cons _ _ _ _ _ _ (@sv_tup _ _ _ _ _ _ _ _ [6,7] ok__law_statement (.cons rfl rfl (.cons rfl rfl .nil)) (@eC _ _ _ _ _ _ _ _ ok__law_statement H.g__law_worth H.k__law_worth (@lv_cons _ _ _ _ _ _ _ (@eL _ _ _ _ ok__law_statement 0 (by rfl) (by rfl) (by decide)) (@lv_nil _ _ _) (by intro _; rfl)) (by rfl) (by decide) (by intro _ ; rfl) (by intro _ _ _ h ; cases h <;> rfl)) (by intro _ ; rfl) (by intro _ ; rfl) (by intro _ ; rfl) (by intro _ ; rfl)) (@Subtype.property _ _ (D__law_statement_6 H)))))⟩
noncomputable def D__law_statement_8 {g : GW} (H : Facts g) : {P : PTS // SVs g fi__law_statement (List.drop 4 (bodyOf (topS 53))) P} := ⟨_,(@sv_cons _ _ _ _ _ _ (@sv_if _ _ _ _ _ _ _ _ _ (@bv_cmp _ _ _ _ _ _ _ _ (@eL _ _ _ _ ok__law_statement 1 (by rfl) (by rfl) (by decide)) (@eI _ _ _ _ _) (by rfl)) (@sv_cons _ _ _ _ _ _ (@sv_ret _ _ _ _ _ (@ev_tup _ _ _ _ _ _ (@lv_cons _ _ _ _ _ _ _ (@eS _ _ _ _ _) (@lv_cons _ _ _ _ _ _ _ (@eS _ _ _ _ _) (@lv_cons _ _ _ _ _ _ _ (@ev_tupC _ _ [.str "vacuum"] _ _ _ rfl rfl) (@lv_nil _ _ _) (by intro _; rfl)) (by intro _; rfl)) (by intro _; rfl)))) (@sv_nil _ _)) (@sv_nil _ _)) (@sv_cons _ _ _ _ _ _ (@sv_tup _ _ _ _ _ _ _ _ [4,5] ok__law_statement (.cons rfl rfl (.cons rfl rfl .nil)) (@eC _ _ _ _ _ _ _ _ ok__law_statement H.g__law_called H.k__law_called (@lv_cons _ _ _ _ _ _ _ (@eL _ _ _ _ ok__law_statement 0 (by rfl) (by rfl) (by decide)) (@lv_nil _ _ _) (by intro _; rfl)) (by rfl) (by decide) (by intro _ ; rfl) (by intro _ _ _ h ; cases h <;> rfl)) (by intro _ ; rfl) (by intro _ ; rfl) (by intro _ ; rfl) (by intro _ ; rfl)) (@sv_cons _ _ _ _ _ _ (@sv_if _ _ _ _ _ _ _ _ _ (@bv_cmp _ _ _ _ _ _ _ _ (@eL _ _ _ _ ok__law_statement 1 (by rfl) (by rfl) (by decide)) (@eI _ _ _ _ _) (by rfl)) (@Subtype.property _ _ (D__law_statement_3 H)) (@sv_nil _ _)) (@Subtype.property _ _ (D__law_statement_7 H)))))⟩
noncomputable def D__law_statement {g : GW} (H : Facts g) : {P : PTS // SVs g fi__law_statement (bodyOf (topS 53)) P} := ⟨_,(@sv_cons _ _ _ _ _ _ (@sv_asg _ _ _ _ _ _ _ 1 ok__law_statement rfl rfl (@eC _ _ _ _ _ _ _ _ ok__law_statement H.g__law_take H.k__law_take (@lv_cons _ _ _ _ _ _ _ (@eL _ _ _ _ ok__law_statement 0 (by rfl) (by rfl) (by decide)) (@lv_cons _ _ _ _ _ _ _ (@eI _ _ _ _ _) (@lv_nil _ _ _) (by intro _; rfl)) (by intro _; rfl)) (by rfl) (by decide) (by intro _ ; rfl) (by intro _ _ _ h ; cases h <;> rfl)) (by intro _ ; rfl)) (@sv_cons _ _ _ _ _ _ (@sv_if _ _ _ _ _ _ _ _ _ (@bv_cmp _ _ _ _ _ _ _ _ (@eL _ _ _ _ ok__law_statement 1 (by rfl) (by rfl) (by decide)) (@eI _ _ _ _ _) (by rfl)) (@Subtype.property _ _ (D__law_statement_0 H)) (@sv_nil _ _)) (@sv_cons _ _ _ _ _ _ (@sv_if _ _ _ _ _ _ _ _ _ (@bv_cmp _ _ _ _ _ _ _ _ (@eL _ _ _ _ ok__law_statement 1 (by rfl) (by rfl) (by decide)) (@eI _ _ _ _ _) (by rfl)) (@Subtype.property _ _ (D__law_statement_1 H)) (@sv_nil _ _)) (@sv_cons _ _ _ _ _ _ (@sv_if _ _ _ _ _ _ _ _ _ (@bv_cmp _ _ _ _ _ _ _ _ (@eL _ _ _ _ ok__law_statement 1 (by rfl) (by rfl) (by decide)) (@eI _ _ _ _ _) (by rfl)) (@Subtype.property _ _ (D__law_statement_2 H)) (@sv_nil _ _)) (@Subtype.property _ _ (D__law_statement_8 H))))))⟩
noncomputable def D_law_0 {g : GW} (H : Facts g) : {P : PTS // SVs g fi_law (List.drop 8 (loopB (stA (bodyOf (topS 56)) 0))) P} := ⟨_,(@sv_cons _ _ _ _ _ _ (@sv_if _ _ _ _ _ _ _ _ _ (@bv_or _ _ _ _ _ _ _ (@bv_not _ _ _ _ _ (@bv_plain _ _ _ _ (@ev_callS0 _ _ _ _ _ _ _ _ ok_law rfl rfl (by decide) H.g__law_is_refused H.k__law_is_refused (@lv_cons _ _ _ _ _ _ _ (@ev_bin _ _ _ _ _ _ _ _ (@eL _ _ _ _ ok_law 6 (by rfl) (by rfl) (by decide)) (@eS _ _ _ _ _)) (@lv_nil _ _ _) (by intro _; rfl)) (by intro _ ; rfl) (by intro _ _ _ h ; cases h <;> rfl)) (by intro _ _ ; rfl))) (@bv_or _ _ _ _ _ _ _ (@bv_not _ _ _ _ _ (@bv_plain _ _ _ _ (@ev_callS0 _ _ _ _ _ _ _ _ ok_law rfl rfl (by decide) H.g__law_is_refused H.k__law_is_refused (@lv_cons _ _ _ _ _ _ _ (@ev_bin _ _ _ _ _ _ _ _ (@eL _ _ _ _ ok_law 8 (by rfl) (by rfl) (by decide)) (@eS _ _ _ _ _)) (@lv_nil _ _ _) (by intro _; rfl)) (by intro _ ; rfl) (by intro _ _ _ h ; cases h <;> rfl)) (by intro _ _ ; rfl))) (@bv_or_nil _ _ _) (by intro _ _ _ ; rfl)) (by intro _ _ _ ; rfl)) (@sv_cons _ _ _ _ _ _ (@sv_ret _ _ _ _ _ (@ev_bool _ _ _ _ _)) (@sv_nil _ _)) (@sv_nil _ _)) (@sv_nil _ _))⟩
noncomputable def D_law_1 {g : GW} (H : Facts g) : {P : PTS // SVs g fi_law (List.drop 7 (loopB (stA (bodyOf (topS 56)) 0))) P} := ⟨_,(@sv_cons _ _ _ _ _ _ (@sv_if _ _ _ _ _ _ _ _ _ (@bv_or _ _ _ _ _ _ _ (@bv_cmp _ _ _ _ _ _ _ _ (@eL _ _ _ _ ok_law 9 (by rfl) (by rfl) (by decide)) (@ev_none _ _ _ _) (by rfl)) (@bv_or _ _ _ _ _ _ _ (@bv_cmpD _ _ _ _ _ _ _ true (@eM _ _ _ _ _ _ _ _ _ 3 ok_law (@eL _ _ _ _ ok_law 9 (by rfl) (by rfl) (by decide)) (@lv_nil _ _ _) _ (by rfl) (by intro _ ; rfl) (by intro _ ; rfl) (by intro _ _ _ h ; cases h <;> rfl)) (@eL _ _ _ _ ok_law 5 (by rfl) (by rfl) (by decide)) (by rfl)) (@bv_or _ _ _ _ _ _ _ (@bv_cmp _ _ _ _ _ _ _ _ (@eC _ _ _ _ _ _ _ _ ok_law H.g_write_transaction H.k_write_transaction (@lv_cons _ _ _ _ _ _ _ (@eL _ _ _ _ ok_law 9 (by rfl) (by rfl) (by decide)) (@lv_nil _ _ _) (by intro _; rfl)) (by rfl) (by decide) (by intro _ ; rfl) (by intro _ _ _ h ; cases h <;> rfl)) (@eL _ _ _ _ ok_law 8 (by rfl) (by rfl) (by decide)) (by rfl)) (@bv_or_nil _ _ _) (by intro _ _ _ ; rfl)) (by intro _ _ _ ; rfl)) (by intro _ _ _ ; rfl)) (@sv_cons _ _ _ _ _ _ (@sv_ret _ _ _ _ _ (@ev_bool _ _ _ _ _)) (@sv_nil _ _)) (@sv_nil _ _)) (@Subtype.property _ _ (D_law_0 H)))⟩
noncomputable def D_law_2 {g : GW} (H : Facts g) : {P : PTS // SVs g fi_law (List.drop 5 (loopB (stA (bodyOf (topS 56)) 0))) P} := ⟨_,(@sv_cons _ _ _ _ _ _ (@sv_asg _ _ _ _ _ _ _ 8 ok_law rfl rfl (@eC _ _ _ _ _ _ _ _ ok_law H.g_write_transaction H.k_write_transaction (@lv_cons _ _ _ _ _ _ _ (@eL _ _ _ _ ok_law 7 (by rfl) (by rfl) (by decide)) (@lv_nil _ _ _) (by intro _; rfl)) (by rfl) (by decide) (by intro _ ; rfl) (by intro _ _ _ h ; cases h <;> rfl)) (by intro _ ; rfl)) (@sv_cons _ _ _ _ _ _ (@sv_asg _ _ _ _ _ _ _ 9 ok_law rfl rfl (@ev_callS0 _ _ _ _ _ _ _ _ ok_law rfl rfl (by decide) H.g__law_read H.k__law_read (@lv_cons _ _ _ _ _ _ _ (@eL _ _ _ _ ok_law 8 (by rfl) (by rfl) (by decide)) (@lv_nil _ _ _) (by intro _; rfl)) (by intro _ ; rfl) (by intro _ _ _ h ; cases h <;> rfl)) (by intro _ ; rfl)) (@Subtype.property _ _ (D_law_1 H))))⟩
noncomputable def D_law_3 {g : GW} (H : Facts g) : {P : PTS // SVs g fi_law (List.drop 3 (loopB (stA (bodyOf (topS 56)) 0))) P} := ⟨_,(@sv_cons _ _ _ _ _ _ (@sv_asg _ _ _ _ _ _ _ 7 ok_law rfl rfl (@ev_callS0 _ _ _ _ _ _ _ _ ok_law rfl rfl (by decide) H.g__law_read H.k__law_read (@lv_cons _ _ _ _ _ _ _ (@eL _ _ _ _ ok_law 6 (by rfl) (by rfl) (by decide)) (@lv_nil _ _ _) (by intro _; rfl)) (by intro _ ; rfl) (by intro _ _ _ h ; cases h <;> rfl)) (by intro _ ; rfl)) (@sv_cons _ _ _ _ _ _ (@sv_if _ _ _ _ _ _ _ _ _ (@bv_or _ _ _ _ _ _ _ (@bv_cmp _ _ _ _ _ _ _ _ (@eL _ _ _ _ ok_law 7 (by rfl) (by rfl) (by decide)) (@ev_none _ _ _ _) (by rfl)) (@bv_or _ _ _ _ _ _ _ (@bv_cmpD _ _ _ _ _ _ _ true (@eM _ _ _ _ _ _ _ _ _ 3 ok_law (@eL _ _ _ _ ok_law 7 (by rfl) (by rfl) (by decide)) (@lv_nil _ _ _) _ (by rfl) (by intro _ ; rfl) (by intro _ ; rfl) (by intro _ _ _ h ; cases h <;> rfl)) (@eL _ _ _ _ ok_law 5 (by rfl) (by rfl) (by decide)) (by rfl)) (@bv_or_nil _ _ _) (by intro _ _ _ ; rfl)) (by intro _ _ _ ; rfl)) (@sv_cons _ _ _ _ _ _ (@sv_ret _ _ _ _ _ (@ev_bool _ _ _ _ _)) (@sv_nil _ _)) (@sv_nil _ _)) (@Subtype.property _ _ (D_law_2 H))))⟩
noncomputable def D_law_4 {g : GW} (H : Facts g) : {P : PTS // SVs g fi_law (List.drop 1 (loopB (stA (bodyOf (topS 56)) 0))) P} := ⟨_,(@sv_cons _ _ _ _ _ _ (@sv_tup _ _ _ _ _ _ _ _ [3,4,5] ok_law (.cons rfl rfl (.cons rfl rfl (.cons rfl rfl .nil))) (@eC _ _ _ _ _ _ _ _ ok_law H.g__law_statement H.k__law_statement (@lv_cons _ _ _ _ _ _ _ (@eL _ _ _ _ ok_law 2 (by rfl) (by rfl) (by decide)) (@lv_nil _ _ _) (by intro _; rfl)) (by rfl) (by decide) (by intro _ ; rfl) (by intro _ _ _ h ; cases h <;> rfl)) (by intro _ ; rfl) (by intro _ ; rfl) (by intro _ ; rfl) (by intro _ ; rfl)) (@sv_cons _ _ _ _ _ _ (@sv_asg _ _ _ _ _ _ _ 6 ok_law rfl rfl (@ev_bin _ _ _ _ _ _ _ _ (@ev_ifexp _ _ _ _ _ _ _ _ _ (@bv_cmp _ _ _ _ _ _ _ _ (@eC _ _ _ _ _ _ _ _ ok_law H.g__law_take H.k__law_take (@lv_cons _ _ _ _ _ _ _ (@eL _ _ _ _ ok_law 2 (by rfl) (by rfl) (by decide)) (@lv_cons _ _ _ _ _ _ _ (@eI _ _ _ _ _) (@lv_nil _ _ _) (by intro _; rfl)) (by intro _; rfl)) (by rfl) (by decide) (by intro _ ; rfl) (by intro _ _ _ h ; cases h <;> rfl)) (@eI _ _ _ _ _) (by rfl)) (@ev_strM _ _ _ _ _ _ _ _ _ .lower rfl (@eL _ _ _ _ ok_law 3 (by rfl) (by rfl) (by decide)) (@lv_nil _ _ _) _ (by intro _ ; rfl) (by intro _ ; rfl) (by intro _ _ _ h ; cases h <;> rfl)) (@eL _ _ _ _ ok_law 3 (by rfl) (by rfl) (by decide))) (@eL _ _ _ _ ok_law 4 (by rfl) (by rfl) (by decide))) (by intro _ ; rfl)) (@Subtype.property _ _ (D_law_3 H))))⟩
noncomputable def D_law_5 {g : GW} (H : Facts g) : {P : PTS // SVs g fi_law (List.drop 2 (bodyOf (topS 56))) P} := ⟨_,(@sv_cons _ _ _ _ _ _ (@sv_ret _ _ _ _ _ (@ev_cmpD _ _ _ _ _ _ _ false (@ev_compNone _ _ _ _ _ _ _ _ _ _ _ _ _ _ _ 10 ok_law rfl rfl rfl (by decide) (fun _ => rfl) (by decide) rfl (by decide) rfl (fun _ _ => rfl) (fun _ _ => rfl) (fun _ _ => rfl) (by decide) (by decide) H.g__law_is_refused H.k__law_is_refused (by intro _ _ ; rfl)) (@ev_lst _ _ _ _ _ (@lv_nil _ _ _)) (by rfl))) (@sv_nil _ _))⟩
noncomputable def D_law_6 {g : GW} (H : Facts g) : {P : PTS // SVs g fi_law (List.drop 1 (bodyOf (topS 56))) P} := ⟨_,(@sv_cons _ _ _ _ _ _ (@sv_asg _ _ _ _ _ _ _ 10 ok_law rfl rfl (@ev_lstC _ _ [.str "",.str "BEGIN DEFERRED IMMEDIATE",.str "SAVEPOINT",.str "RELEASE",.str "RELEASE SAVEPOINT",.str "ROLLBACK TO",.str "PRAGMA",.str "PRAGMA a =",.str "PRAGMA a (1",.str "PRAGMA a = - b",.str "COMMIT COMMIT",.str "SELECT 1",.str "SAVEPOINT 'a'",.str "PRAGMA a = (1)",.str "TO a"] _ _ rfl rfl) (by intro _ ; rfl)) (@Subtype.property _ _ (D_law_5 H)))⟩
noncomputable def D_law {g : GW} (H : Facts g) : {P : PTS // SVs g fi_law (bodyOf (topS 56)) P} := ⟨_,(@sv_cons _ _ _ _ _ _ (@sv_forRange _ _ _ _ _ _ _ _ _ _ _ _ 1 ok_law rfl rfl rfl (by decide) H.b_range bb_range (by decide) (@lv_cons _ _ _ _ _ _ _ (@eB _ _ _ _ _ _ _ _ .max H.IO ok_law H.b_max bb_max (@lv_cons _ _ _ _ _ _ _ (@eI _ _ _ _ _) (@lv_cons _ _ _ _ _ _ _ (@eB _ _ _ _ _ _ _ _ .min H.IO ok_law H.b_min bb_min (@lv_cons _ _ _ _ _ _ _ (@eB _ _ _ _ _ _ _ _ .len H.IO ok_law H.b_len bb_len (@lv_cons _ _ _ _ _ _ _ (@eL _ _ _ _ ok_law 0 (by rfl) (by rfl) (by decide)) (@lv_nil _ _ _) (by intro _; rfl)) (by rfl) (by decide) (by decide) (by intro _ ; rfl) (by intro _ ; rfl)) (@lv_cons _ _ _ _ _ _ _ (@eI _ _ _ _ _) (@lv_nil _ _ _) (by intro _; rfl)) (by intro _; rfl)) (by rfl) (by decide) (by decide) (by intro _ ; rfl) (by intro _ ; rfl)) (@lv_nil _ _ _) (by intro _; rfl)) (by intro _; rfl)) (by rfl) (by decide) (by decide) (by intro _ ; rfl) (by intro _ ; rfl)) (@lv_nil _ _ _) (by intro _; rfl)) (@svs_cut0 _ _ _ _ (@sv_cons _ _ _ _ _ _ (@sv_asg _ _ _ _ _ _ _ 2 ok_law rfl rfl (@eC _ _ _ _ _ _ _ _ ok_law H.g__law_pool H.k__law_pool (@lv_cons _ _ _ _ _ _ _ (@eL _ _ _ _ ok_law 0 (by rfl) (by rfl) (by decide)) (@lv_cons _ _ _ _ _ _ _ (@eL _ _ _ _ ok_law 1 (by rfl) (by rfl) (by decide)) (@lv_nil _ _ _) (by intro _; rfl)) (by intro _; rfl)) (by rfl) (by decide) (by intro _ ; rfl) (by intro _ _ _ h ; cases h <;> rfl)) (by intro _ ; rfl)) (@Subtype.property _ _ (D_law_4 H)))) (by intro _ ; rfl) (by intro _ _ ; rfl)) (@Subtype.property _ _ (D_law_6 H)))⟩
end
end Mine
end
section
namespace Mine
theorem CALLP.use {g : GW} {d d0 : Nat} {f : Addr} {args : List PV} {Qp : PV → Prop} {X0 X : Prop} {avs : List AV} {μ : List MO} {Q : AV → List MO → Prop} (h : CALLP g d0 f args Qp X0) (ha : avs = args.map .pv) (hd : d0 ≤ d) (hq : ∀ p,Qp p → Q (.pv p) μ) (hx : X0 → X) : CALL g d f avs μ Q X := by
  subst ha
  exact ((h.frame μ).more hd).mono (fun b ν ⟨e,p,eb,hp⟩ => by subst e eb; exact hq p hp) hx
noncomputable def QP (Q : PV → Prop) (b : AV) (ν : List MO) : Prop := ν = [] ∧ ∃ p,b = .pv p ∧ Q p
noncomputable def RP (Q : PV → Prop) (b : AV) (μ' : List MO) : Prop := Back [] (QP Q) b μ'
theorem RP.pv {Q : PV → Prop} {p : PV} {μ' : List MO} (h : Q p) : RP Q (.pv p) μ' := ⟨⟨0,.pv p,Nat.le_refl _,rfl,rfl,rfl,p,rfl,h⟩⟩
theorem RP.frz {Q : PV → Prop} {b : AV} {p : PV} {μ' : List MO} (e : frz μ' 0 b = some (.pv p)) (h : Q p) : RP Q b μ' := ⟨⟨0,.pv p,Nat.le_refl _,e,rfl,rfl,p,rfl,h⟩⟩
theorem pure_intro {g : GW} {fi : FI} {params : Arguments} {body : List Stmt} {P : PTS} {d : Nat} {args : List PV} {Q : PV → Prop} {X : Prop} (ok : fi.Ok) (Fn : FnAt g fi params body args.length) (hb : SVs g fi body P)
    (h : P d X (locs0 fi (args.map .pv)) [] (fun _ μ' => RP Q (.pv .none) μ') (RP Q)) : CALLP g (d + 1) fi.f args Q X :=
  call_intro ok (by rw [List.length_map]; exact Fn) hb h
noncomputable def RI (C : Addr) (Q : PV → Prop) (b : AV) (μ' : List MO) : Prop := Back [.inst C []] (fun b ν => b = .pv .none ∧ Back [] (QP Q) (.mut 0) ν) b μ'
theorem RI.mk {C : Addr} {Q : PV → Prop} {o : MO} {p : PV} (e : frzM 0 o = some (.pv p)) (hb : belowM 1 o = true) (h : Q p) : RI C Q (.pv .none) [o] :=
  ⟨⟨1,.pv .none,Nat.le_refl _,rfl,by simp [hb],rfl,⟨⟨0,.pv p,Nat.le_refl _,by show (([o] : List MO)[0]?).bind (frzM 0) = _; exact e,rfl,rfl,p,rfl,h⟩⟩⟩⟩
theorem make_pure {g : GW} {fi : FI} {params : Arguments} {body : List Stmt} {P : PTS} {d : Nat} {C : Addr} {args : List PV} {Q : PV → Prop} {X : Prop} (ok : fi.Ok) (O : MakeOk g C fi.f) (Fn : FnAt g fi params body (args.length + 1)) (hb : SVs g fi body P)
    (h : P d X (locs0 fi (.mut 0 :: args.map .pv)) [.inst C []] (fun _ μ' => RI C Q (.pv .none) μ') (RI C Q)) : CALLP g (d + 2) C args Q X :=
  call_make O (call_intro ok (by rw [List.length_cons,List.length_map]; exact Fn) hb h)
noncomputable def wd (k t : Str) (v : PV) (p : Int) : PV := .inst 393 [(0,.str k),(1,.str t),(2,v),(3,.int p)]
section
variable {g : GW} (H : Facts g)
include H
theorem c_is_sign {k t u : Str} {v : PV} {p : Int} : CALLP g 1 362 [wd k t v p,.str u] (fun r => r = .bool (k == "sign" && t == u)) False :=
  have ok := ok_Word_is_sign
  pure_intro (fi := fi_Word_is_sign) ok H.f_Word_is_sign (@Subtype.property _ _ (D_Word_is_sign H)) (sel.mk (fun h => RP.pv (by rw [h]; rfl)) (fun h => RP.pv (by rw [h]; rfl)))
theorem c_is_key {k t u : Str} {v : PV} {p : Int} : CALLP g 1 369 [wd k t v p,.str u] (fun r => r = .bool (k == "name" && t == u)) False :=
  have ok := ok_Word_is_key
  pure_intro (fi := fi_Word_is_key) ok H.f_Word_is_key (@Subtype.property _ _ (D_Word_is_key H)) (sel.mk (fun h => RP.pv (by rw [h]; rfl)) (fun h => RP.pv (by rw [h]; rfl)))
theorem c_is_free {k t : Str} {v : PV} {p : Int} : CALLP g 1 376 [wd k t v p] (fun r => r = .bool (k == "name" && !l_RESERVED.any (· == t))) False :=
  have ok := ok_Word_is_free
  pure_intro (fi := fi_Word_is_free) ok H.f_Word_is_free (@Subtype.property _ _ (D_Word_is_free H)) (sel.mk (fun h => RP.pv (by rw [h]; show PV.bool (true ^^ _) = _; simp)) (fun h => RP.pv (by rw [h]; rfl)))
theorem c_Word {k t : Str} {v : PV} {p : Int} : CALLP g 2 393 [.str k,.str t,v,.int p] (fun r => r = wd k t v p) False :=
  have ok := ok_Word_init
  make_pure (fi := fi_Word_init) ok H.mk_Word H.f_Word_init (@Subtype.property _ _ (D_Word_init H)) (by
    refine RI.mk rfl rfl rfl)
end
end Mine
end
section
namespace Mine
noncomputable def nBegin (k : Str) : PV := .inst 66 [(0,.str k)]
noncomputable def nCommit:PV:=.inst 85 []
noncomputable def nRollback (n : PV) : PV := .inst 111 [(10,n)]
noncomputable def nSavepoint (n : PV) : PV := .inst 137 [(10,n)]
noncomputable def nRelease (n : PV) : PV := .inst 163 [(10,n)]
noncomputable def nPragma (n v : PV) : PV := .inst 189 [(10,n),(2,v)]
noncomputable def nVacuum:PV:=.inst 208 []
section
variable {g : GW} (H : Facts g)
include H
theorem c_Begin {k : Str} : CALLP g 2 66 [.str k] (fun r => r = nBegin k) False :=
  have ok := ok_Begin_init
  make_pure (fi := fi_Begin_init) ok H.mk_Begin H.f_Begin_init (@Subtype.property _ _ (D_Begin_init H)) (RI.mk rfl rfl rfl)
theorem c_Rollback {n : PV} : CALLP g 2 111 [n] (fun r => r = nRollback n) False :=
  have ok := ok_Rollback_init
  make_pure (fi := fi_Rollback_init) ok H.mk_Rollback H.f_Rollback_init (@Subtype.property _ _ (D_Rollback_init H)) (RI.mk rfl rfl rfl)
theorem c_Savepoint {n : PV} : CALLP g 2 137 [n] (fun r => r = nSavepoint n) False :=
  have ok := ok_Savepoint_init
  make_pure (fi := fi_Savepoint_init) ok H.mk_Savepoint H.f_Savepoint_init (@Subtype.property _ _ (D_Savepoint_init H)) (RI.mk rfl rfl rfl)
theorem c_Release {n : PV} : CALLP g 2 163 [n] (fun r => r = nRelease n) False :=
  have ok := ok_Release_init
  make_pure (fi := fi_Release_init) ok H.mk_Release H.f_Release_init (@Subtype.property _ _ (D_Release_init H)) (RI.mk rfl rfl rfl)
theorem c_Pragma {n v : PV} : CALLP g 2 189 [n,v] (fun r => r = nPragma n v) False :=
  have ok := ok_Pragma_init
  make_pure (fi := fi_Pragma_init) ok H.mk_Pragma H.f_Pragma_init (@Subtype.property _ _ (D_Pragma_init H)) (RI.mk rfl rfl rfl)
theorem c_Commit : CALLP g 2 85 [] (fun r => r = nCommit) False := call_make0 H.mk_Commit H.mi_Commit ⟨rfl,_,rfl,rfl⟩
theorem c_Vacuum : CALLP g 2 208 [] (fun r => r = nVacuum) False := call_make0 H.mk_Vacuum H.mi_Vacuum ⟨rfl,_,rfl,rfl⟩
theorem c_row_Begin {k : Str} : CALLP g 1 63 [nBegin k] (fun r => r = .tup [.str "begin",.str k]) False :=
  have ok := ok_Begin_row
  pure_intro (fi := fi_Begin_row) ok H.f_Begin_row (@Subtype.property _ _ (D_Begin_row H)) (And.intro (Nat.le_of_ble_eq_true rfl) (RP.pv rfl))
theorem c_row_Commit : CALLP g 1 82 [nCommit] (fun r => r = .tup [.str "commit"]) False :=
  have ok := ok_Commit_row
  pure_intro (fi := fi_Commit_row) ok H.f_Commit_row (@Subtype.property _ _ (D_Commit_row H)) (And.intro (Nat.le_of_ble_eq_true rfl) (RP.pv rfl))
theorem c_row_Rollback {n : PV} : CALLP g 1 108 [nRollback n] (fun r => r = .tup [.str "rollback",n]) False :=
  have ok := ok_Rollback_row
  pure_intro (fi := fi_Rollback_row) ok H.f_Rollback_row (@Subtype.property _ _ (D_Rollback_row H)) (And.intro (Nat.le_of_ble_eq_true rfl) (RP.pv rfl))
theorem c_row_Savepoint {n : PV} : CALLP g 1 134 [nSavepoint n] (fun r => r = .tup [.str "savepoint",n]) False :=
  have ok := ok_Savepoint_row
  pure_intro (fi := fi_Savepoint_row) ok H.f_Savepoint_row (@Subtype.property _ _ (D_Savepoint_row H)) (And.intro (Nat.le_of_ble_eq_true rfl) (RP.pv rfl))
theorem c_row_Release {n : PV} : CALLP g 1 160 [nRelease n] (fun r => r = .tup [.str "release",n]) False :=
  have ok := ok_Release_row
  pure_intro (fi := fi_Release_row) ok H.f_Release_row (@Subtype.property _ _ (D_Release_row H)) (And.intro (Nat.le_of_ble_eq_true rfl) (RP.pv rfl))
theorem c_row_Pragma {n v : PV} : CALLP g 1 186 [nPragma n v] (fun r => r = .tup [.str "pragma",n,v]) False :=
  have ok := ok_Pragma_row
  pure_intro (fi := fi_Pragma_row) ok H.f_Pragma_row (@Subtype.property _ _ (D_Pragma_row H)) (And.intro (Nat.le_of_ble_eq_true rfl) (RP.pv rfl))
theorem c_row_Vacuum : CALLP g 1 205 [nVacuum] (fun r => r = .tup [.str "vacuum"]) False :=
  have ok := ok_Vacuum_row
  pure_intro (fi := fi_Vacuum_row) ok H.f_Vacuum_row (@Subtype.property _ _ (D_Vacuum_row H)) (And.intro (Nat.le_of_ble_eq_true rfl) (RP.pv rfl))
theorem c_folded {t : Str} (ha : Txt.isascii t = true) (hl : Builtin.Str.tooLong (Txt.upper t).length = false) : CALLP g 1 327 [.str t] (fun r => r = .str (Txt.upper t)) False :=
  have ok := ok_folded
  pure_intro (fi := fi_folded) ok H.f_folded (@Subtype.property _ _ (D_folded H)) (And.intro rfl (sel.mk (fun h => And.intro rfl (And.intro hl (RP.pv rfl))) (fun h => by rw [ha] at h; cases h)))
end
noncomputable def sLETTERS:Str:="abcdefghijklmnopqrstuvwxyzABCDEFGHIJKLMNOPQRSTUVWXYZ_"
noncomputable def sNAME:Str:="abcdefghijklmnopqrstuvwxyzABCDEFGHIJKLMNOPQRSTUVWXYZ_0123456789$"
noncomputable def ordS (s : Str) : Int := (s.cps.getD 0 0 : Nat)
noncomputable def begS (s : Str) : Bool := inStr s sLETTERS || decide (127 < ordS s)
noncomputable def onS (s : Str) : Bool := inStr s sNAME || decide (127 < ordS s)
section
variable {g : GW} (H : Facts g)
include H
theorem c_begins {s : Str} (h1 : s.length = 1) : CALLP g 1 334 [.str s] (fun r => r = .bool (begS s)) False :=
  have ok := ok_begins_name
  pure_intro (fi := fi_begins_name) ok H.f_begins_name (@Subtype.property _ _ (D_begins_name H)) (by
    refine sel.mk (fun h => RP.pv ?_) (fun h => And.intro h1 (RP.pv ?_))
    · show PV.bool (inStr s sLETTERS) = _
      unfold begS; rw [show inStr s sLETTERS = true from h]; rfl
    · show PV.bool (decide (127 < ordS s)) = _
      unfold begS; rw [show inStr s sLETTERS = false from h]; rfl)
theorem c_goes {s : Str} (h1 : s.length = 1) : CALLP g 1 341 [.str s] (fun r => r = .bool (onS s)) False :=
  have ok := ok_goes_on_name
  pure_intro (fi := fi_goes_on_name) ok H.f_goes_on_name (@Subtype.property _ _ (D_goes_on_name H)) (by
    refine sel.mk (fun h => RP.pv ?_) (fun h => And.intro h1 (RP.pv ?_))
    · show PV.bool (inStr s sNAME) = _
      unfold onS; rw [show inStr s sNAME = true from h]; rfl
    · show PV.bool (decide (127 < ordS s)) = _
      unfold onS; rw [show inStr s sNAME = false from h]; rfl)
end
end Mine
end
section
namespace Mine
structure Wd where
  k : Str
  t : Str
  v : PV
  p : Int
noncomputable def Wd.pv (w : Wd) : PV := wd w.k w.t w.v w.p
noncomputable def Wd.key (w : Wd) (u : Str) : Bool := w.k == "name" && w.t == u
noncomputable def Wd.sign (w : Wd) (u : Str) : Bool := w.k == "sign" && w.t == u
noncomputable def Wd.free (w : Wd) : Bool := w.k == "name" && !l_RESERVED.any (· == w.t)
noncomputable def st (t : Str) (ws : List Wd) (k : Nat) : MO := .inst 667 [(1,.pv (.str t)),(6,.pv (.lst (ws.map Wd.pv))),(7,.pv (.int k)),(8,.pv (.int 0))]
theorem sub_lst {ps : List PV} {i : Int} {K : PV → Prop} {p : PV} (h0 : 0 ≤ i) (h1 : i < 2 ^ 62) (hp : ps[i.toNat]? = some p) (k : K p) : (0 ≤ i ∧ i < 2 ^ 62) ∧ ∃ p,ps[i.toNat]? = some p ∧ K p := ⟨⟨h0,h1⟩,p,hp,k⟩
theorem Back.one {o o' : MO} {Q : AV → List MO → Prop} {p : PV} (hb : belowM 1 o' = true) (h : Q (.pv p) [o']) : Back [o] Q (.pv p) [o'] :=
  ⟨⟨1,.pv p,Nat.le_refl _,rfl,by show (([o'] : List MO).all (belowM 1)) = true; simp [hb],h⟩⟩
section
variable {g : GW} (H : Facts g) {t : Str} {ws : List Wd} {k : Nat} {w : Wd} (hw : ws[k]? = some w) (hk : k < 1000000)
include H hw hk
theorem here_get : (ws.map Wd.pv)[((k : Nat) : Int).toNat]? = some w.pv := by rw [Int.toNat_natCast,List.getElem?_map,hw]; rfl
theorem c_here : CALL g 1 559 [.mut 0] [st t ws k] (fun b ν => b = .pv w.pv ∧ ν = [st t ws k]) False :=
  have ok := ok_WordStream_here
  call_intro (fi := fi_WordStream_here) ok H.f_WordStream_here (@Subtype.property _ _ (D_WordStream_here H)) (by
    refine sub_lst (p := w.pv) (by omega) (by omega) (here_get H hw hk) (Back.one rfl ⟨rfl,rfl⟩))
theorem c_go : CALL g 1 573 [.mut 0] [st t ws k] (fun b ν => b = .pv w.pv ∧ ν = [st t ws (if w.k == "end" then k else k + 1)]) False :=
  have ok := ok_WordStream_go
  call_intro (fi := fi_WordStream_go) ok H.f_WordStream_go (@Subtype.property _ _ (D_WordStream_go H)) (by
    refine sub_lst (p := w.pv) (by omega) (by omega) (here_get H hw hk) (sel.mk (fun h => ?_) (fun h => ?_))
    · refine Back.one rfl ⟨rfl, ?_⟩
      have h : (w.k != ("end" : Str)) = true := h
      rw [if_neg (by simpa using h)]; rfl
    · refine Back.one rfl ⟨rfl, ?_⟩
      have h : (w.k != ("end" : Str)) = false := h
      rw [if_pos (by simpa using h)])
theorem c_is_over : CALL g 1 587 [.mut 0] [st t ws k] (fun b ν => b = .pv (.bool (w.k == "end")) ∧ ν = [st t ws k]) False :=
  have ok := ok_WordStream_is_over
  call_intro (fi := fi_WordStream_is_over) ok H.f_WordStream_is_over (@Subtype.property _ _ (D_WordStream_is_over H)) (by
    refine sub_lst (p := w.pv) (by omega) (by omega) (here_get H hw hk) (Back.one rfl ⟨rfl,rfl⟩))
theorem c_take_key {u : Str} : CALL g 2 622 [.mut 0,.pv (.str u)] [st t ws k] (fun b ν => b = .pv (.bool (w.key u)) ∧ ν = [st t ws (if w.key u = true then k + 1 else k)]) False :=
  have ok := ok_WordStream_take_key
  call_intro (fi := fi_WordStream_take_key) ok H.f_WordStream_take_key (@Subtype.property _ _ (D_WordStream_take_key H)) (by
    refine sub_lst (p := w.pv) (by omega) (by omega) (here_get H hw hk) (MI rfl H.m_Word_is_key ?_)
    refine (c_is_key H).use rfl (Nat.le_refl _) (fun p hp => ?_) False.elim
    subst hp
    refine sel.mk (fun h => Back.one rfl ?_) (fun h => Back.one rfl ?_)
    · have h : (!w.key u) = true := h
      simp only [Bool.not_eq_true'] at h
      exact ⟨by rw [h],by rw [h]; rfl⟩
    · have h : (!w.key u) = false := h
      simp only [Bool.not_eq_false'] at h
      exact ⟨by rw [h],by rw [h]; rfl⟩)
theorem c_take_sign {u : Str} : CALL g 2 629 [.mut 0,.pv (.str u)] [st t ws k] (fun b ν => b = .pv (.bool (w.sign u)) ∧ ν = [st t ws (if w.sign u = true then k + 1 else k)]) False :=
  have ok := ok_WordStream_take_sign
  call_intro (fi := fi_WordStream_take_sign) ok H.f_WordStream_take_sign (@Subtype.property _ _ (D_WordStream_take_sign H)) (by
    refine sub_lst (p := w.pv) (by omega) (by omega) (here_get H hw hk) (MI rfl H.m_Word_is_sign ?_)
    refine (c_is_sign H).use rfl (Nat.le_refl _) (fun p hp => ?_) False.elim
    subst hp
    refine sel.mk (fun h => Back.one rfl ?_) (fun h => Back.one rfl ?_)
    · have h : (!w.sign u) = true := h
      simp only [Bool.not_eq_true'] at h
      exact ⟨by rw [h],by rw [h]; rfl⟩
    · have h : (!w.sign u) = false := h
      simp only [Bool.not_eq_false'] at h
      exact ⟨by rw [h],by rw [h]; rfl⟩)
end
end Mine
end
section
namespace Mine
theorem CALL.use {g : GW} {d d0 : Nat} {f : Addr} {args : List AV} {μ : List MO} {Q Q' : AV → List MO → Prop} {X X' : Prop} (h : CALL g d0 f args μ Q X) (hd : d0 ≤ d) (hq : ∀ b μ',Q b μ' → Q' b μ') (hx : X → X') : CALL g d f args μ Q' X' := (h.more hd).mono hq hx
theorem Wd.free_k {w : Wd} (h : w.free = true) : (w.k == ("end" : Str)) = false := by
  unfold Wd.free at h
  rw [Bool.and_eq_true] at h
  rw [beq_iff_eq.mp h.1]
  decide
section
variable {g : GW} (H : Facts g) {t : Str} {ws : List Wd} {k : Nat} {w : Wd} (hw : ws[k]? = some w) (hk : k < 1000000)
include H hw hk
theorem c_is_one_of : CALL g 1 608 [.mut 0,.pv (.top 211)] [st t ws k] (fun b ν => b = .pv (.bool (w.k == "name" && l_BEGIN_KINDS.any (· == w.t))) ∧ ν = [st t ws k]) False :=
  have ok := ok_WordStream_is_one_of
  call_intro (fi := fi_WordStream_is_one_of) ok H.f_WordStream_is_one_of (@Subtype.property _ _ (D_WordStream_is_one_of H)) (by
    refine sub_lst (p := w.pv) (by omega) (by omega) (here_get H hw hk) (sel.mk (fun h => ?_) (fun h => ?_))
    · refine And.intro rfl (Back.one rfl ⟨?_,rfl⟩)
      rw [show (w.k == ("name" : Str)) = true from h]; rfl
    · refine Back.one rfl ⟨?_,rfl⟩
      rw [show (w.k == ("name" : Str)) = false from h]; rfl)
theorem c_refuse {m : Str} : CALL g 3 580 [.mut 0,.pv (.str m)] [st t ws k] (fun _ _ => False) True :=
  have ok := ok_WordStream_refuse
  call_intro (fi := fi_WordStream_refuse) ok H.f_WordStream_refuse (@Subtype.property _ _ (D_WordStream_refuse H)) (by
    refine And.intro (by decide) (MI rfl H.m_WordStream_here ?_)
    refine (c_here H hw hk).eqF (Nat.le_of_ble_eq_true rfl) ?_
    exact ⟨rfl,trivial⟩)
theorem c_need_name : CALL g 4 650 [.mut 0] [st t ws k] (fun b ν => w.free = true ∧ b = .pv w.v ∧ ν = [st t ws (k + 1)]) (w.free = false) :=
  have ok := ok_WordStream_need_name
  call_intro (fi := fi_WordStream_need_name) ok H.f_WordStream_need_name (@Subtype.property _ _ (D_WordStream_need_name H)) (by
    refine sub_lst (p := w.pv) (by omega) (by omega) (here_get H hw hk) (MI rfl H.m_Word_is_free ?_)
    refine (c_is_free H).eqp rfl (Nat.le_of_ble_eq_true rfl) ?_
    refine sel.mk (fun h => ?_) (fun h => ?_)
    · have h : (!w.free) = true := h
      refine MI rfl H.m_WordStream_refuse ?_
      exact (c_refuse H hw hk).use (Nat.le_of_ble_eq_true rfl) (fun _ _ h => h.elim) (fun _ => by simpa using h)
    · have h : (!w.free) = false := h
      have hf : w.free = true := by simpa using h
      refine MI rfl H.m_WordStream_go ?_
      refine (c_go H hw hk).eqF (Nat.le_of_ble_eq_true rfl) ?_
      rw [Wd.free_k hf]
      exact Back.one rfl ⟨hf,rfl,rfl⟩)
theorem c_need_sign {u : Str} (hu : u.length ≤ 100) : CALL g 4 643 [.mut 0,.pv (.str u)] [st t ws k] (fun b ν => w.sign u = true ∧ b = .pv .none ∧ ν = [st t ws (k + 1)]) (w.sign u = false) :=
  have ok := ok_WordStream_need_sign
  call_intro (fi := fi_WordStream_need_sign) ok H.f_WordStream_need_sign (@Subtype.property _ _ (D_WordStream_need_sign H)) (by
    refine MI rfl H.m_WordStream_take_sign ?_
    refine (c_take_sign H hw hk).eqF (Nat.le_of_ble_eq_true rfl) ?_
    refine sel.mk (fun h => ?_) (fun h => ?_)
    · have h : (!w.sign u) = true := h
      have hf : w.sign u = false := by simpa using h
      rw [hf]
      refine Exists.intro 667 (Exists.intro 580 (And.intro rfl (And.intro H.m_WordStream_refuse (And.intro ?_ ?_))))
      · show u.length + 11 ≤ textLine
        unfold textLine; omega
      · exact (c_refuse H hw hk).use (Nat.le_of_ble_eq_true rfl) (fun _ _ h => h.elim) (fun _ => rfl)
    · have h : (!w.sign u) = false := h
      have hf : w.sign u = true := by simpa using h
      rw [hf]
      exact Back.one rfl ⟨rfl,rfl,rfl⟩)
end
end Mine
end
section
namespace Mine
inductive PRes where
  | val (r : PV) (k : Nat)
  | err
  | bad
noncomputable def goK (w : Wd) (k : Nat) : Nat := if w.k == "end" then k else k + 1
noncomputable def pAt (ws : List Wd) (k : Nat) (f : Wd → PRes) : PRes := match ws[k]? with
  | none => .bad
  | some w => f w
noncomputable def pSetting (ws : List Wd) (k : Nat) : PRes := pAt ws k fun w =>
  match (["text","name"] : List Str).any (· == w.k) with
  | true => .val w.v (goK w k)
  | false => match w.sign "-" with
    | true => pAt ws (k + 1) fun w1 => match w1.k != "number" with
      | true => .err
      | false => match w1.v with
        | .int n => .val (.int (-1 * n)) (goK w1 (k + 1))
        | _ => .bad
    | false => match w.k != "number" with
      | true => .err
      | false => match w.v with
        | .int n => .val (.int (1 * n)) (goK w k)
        | _ => .bad
noncomputable def SP (t : Str) (ws : List Wd) (res : PRes) (b : AV) (ν : List MO) : Prop := ∃ r k',res = .val r k' ∧ b = .pv r ∧ ν = [st t ws k']
section
variable {g : GW} (H : Facts g) {t : Str} {ws : List Wd} {k : Nat} (hl : ws.length < 1000000)
include H hl
theorem at_ok {f : Wd → PRes} (hb : pAt ws k f ≠ .bad) : ∃ w,ws[k]? = some w ∧ k < 1000000 ∧ pAt ws k f = f w := by
  unfold pAt at hb ⊢
  cases h : ws[k]? with
  | none => rw [h] at hb; exact absurd rfl hb
  | some w => exact ⟨w,rfl,Nat.lt_trans (List.getElem?_eq_some_iff.mp h).1 hl,rfl⟩
theorem c_setting (hb : pSetting ws k ≠ .bad) : CALL g 4 260 [.rd 0] [st t ws k] (SP t ws (pSetting ws k)) (pSetting ws k = .err) :=
  have ok := ok_TransactionReader_setting
  call_intro (fi := fi_TransactionReader_setting) ok H.f_TransactionReader_setting (@Subtype.property _ _ (D_TransactionReader_setting H)) (by
    generalize hr : pSetting ws k = res at hb ⊢
    subst hr
    obtain ⟨w,hw,hk,e⟩ := at_ok H hl hb
    rw [show pSetting ws k = _ from e] at hb ⊢
    refine MI rfl H.m_WordStream_here ?_
    refine (c_here H hw hk).eqF (Nat.le_of_ble_eq_true rfl) ?_
    refine And.intro (Nat.le_of_ble_eq_true rfl) ?_
    refine sel.mk (fun h => ?_) (fun h => ?_)
    · rw [show (["text","name"] : List Str).any (· == w.k) = true from h]
      refine MI rfl H.m_WordStream_go ?_
      refine (c_go H hw hk).eqF (Nat.le_of_ble_eq_true rfl) ?_
      exact Back.one rfl ⟨w.v,_,rfl,rfl,rfl⟩
    · rw [show (["text","name"] : List Str).any (· == w.k) = false from h] at hb ⊢
      refine MI rfl H.m_WordStream_take_sign ?_
      refine (c_take_sign H hw hk).eqF (Nat.le_of_ble_eq_true rfl) ?_
      refine sel.mk (fun hs => ?_) (fun hs => ?_)
      · have hs : w.sign "-" = true := hs
        rw [hs] at hb ⊢
        obtain ⟨w1,hw1,hk1,e1⟩ := at_ok H hl hb
        rw [show pAt ws (k + 1) _ = _ from e1] at hb ⊢
        refine MI rfl H.m_WordStream_here ?_
        refine (c_here H hw1 hk1).eqF (Nat.le_of_ble_eq_true rfl) ?_
        refine sel.mk (fun hn => ?_) (fun hn => ?_)
        · rw [show (w1.k != ("number" : Str)) = true from hn]
          refine MI rfl H.m_WordStream_refuse ?_
          exact (c_refuse H hw1 hk1).use (Nat.le_of_ble_eq_true rfl) (fun _ _ h => h.elim) (fun _ => rfl)
        · rw [show (w1.k != ("number" : Str)) = false from hn] at hb ⊢
          obtain ⟨wk,wt,wv,wp⟩ := w1
          cases wv with
          | int n =>
            refine MI rfl H.m_WordStream_go ?_
            refine (c_go H hw1 hk1).eqF (Nat.le_of_ble_eq_true rfl) ?_
            exact And.intro ⟨by decide,by decide⟩ (Back.one rfl ⟨_,_,rfl,rfl,rfl⟩)
          | _ => exact absurd rfl hb
      · have hs : w.sign "-" = false := hs
        rw [hs] at hb ⊢
        refine MI rfl H.m_WordStream_here ?_
        refine (c_here H hw hk).eqF (Nat.le_of_ble_eq_true rfl) ?_
        refine sel.mk (fun hn => ?_) (fun hn => ?_)
        · rw [show (w.k != ("number" : Str)) = true from hn]
          refine MI rfl H.m_WordStream_refuse ?_
          exact (c_refuse H hw hk).use (Nat.le_of_ble_eq_true rfl) (fun _ _ h => h.elim) (fun _ => rfl)
        · rw [show (w.k != ("number" : Str)) = false from hn] at hb ⊢
          obtain ⟨wk,wt,wv,wp⟩ := w
          cases wv with
          | int n =>
            refine MI rfl H.m_WordStream_go ?_
            refine (c_go H hw hk).eqF (Nat.le_of_ble_eq_true rfl) ?_
            exact And.intro ⟨by decide,by decide⟩ (Back.one rfl ⟨_,_,rfl,rfl,rfl⟩)
          | _ => exact absurd rfl hb)
end
end Mine
end
section
namespace Mine
noncomputable def pTake (ws : List Wd) (k : Nat) (u : Str) (f : Nat → Bool → PRes) : PRes := pAt ws k fun w => f (if w.key u = true then k + 1 else k) (w.key u)
noncomputable def pSign (ws : List Wd) (k : Nat) (u : Str) (f : Nat → Bool → PRes) : PRes := pAt ws k fun w => f (if w.sign u = true then k + 1 else k) (w.sign u)
noncomputable def pName (ws : List Wd) (k : Nat) (f : PV → Nat → PRes) : PRes := pAt ws k fun w => match w.free with
  | true => f w.v (k + 1)
  | false => .err
noncomputable def pBind (r : PRes) (f : PV → Nat → PRes) : PRes := match r with
  | .val p k => f p k
  | .err => .err
  | .bad => .bad
noncomputable def pRollback (ws : List Wd) (k : Nat) : PRes := pTake ws k "TRANSACTION" fun k1 _ => pTake ws k1 "TO" fun k2 b => match b with
  | false => .val (nRollback .none) k2
  | true => pTake ws k2 "SAVEPOINT" fun k3 _ => pName ws k3 fun n k4 => .val (nRollback n) k4
noncomputable def pBegin (ws : List Wd) (k : Nat) : PRes := pAt ws k fun w => match w.k == "name" && l_BEGIN_KINDS.any (· == w.t) with
  | true => match Builtin.Str.tooLong (Txt.lower w.t).length with
    | false => pTake ws (goK w k) "TRANSACTION" fun k1 _ => .val (nBegin (Txt.lower w.t)) k1
    | true => .bad
  | false => pTake ws k "TRANSACTION" fun k1 _ => .val (nBegin "deferred") k1
noncomputable def pPragma (ws : List Wd) (k : Nat) : PRes := pName ws k fun n k1 => pSign ws k1 "=" fun k2 b => match b with
  | true => pBind (pSetting ws k2) fun v k3 => .val (nPragma n v) k3
  | false => pSign ws k2 "(" fun k3 b => match b with
    | true => pBind (pSetting ws k3) fun v k4 => pAt ws k4 fun w => match w.sign ")" with
      | true => .val (nPragma n v) (k4 + 1)
      | false => .err
    | false => .val (nPragma n .none) k3
noncomputable def pTrans (ws : List Wd) (k : Nat) : PRes := pTake ws k "BEGIN" fun k b => match b with
  | true => pBegin ws k
  | false => pTake ws k "COMMIT" fun k b => match b with
    | true => pTake ws k "TRANSACTION" fun k _ => .val nCommit k
    | false => pTake ws k "END" fun k b => match b with
      | true => pTake ws k "TRANSACTION" fun k _ => .val nCommit k
      | false => pTake ws k "ROLLBACK" fun k b => match b with
        | true => pRollback ws k
        | false => pTake ws k "SAVEPOINT" fun k b => match b with
          | true => pName ws k fun n k => .val (nSavepoint n) k
          | false => pTake ws k "RELEASE" fun k b => match b with
            | true => pTake ws k "SAVEPOINT" fun k _ => pName ws k fun n k => .val (nRelease n) k
            | false => pTake ws k "VACUUM" fun k b => match b with
              | true => .val nVacuum k
              | false => pTake ws k "PRAGMA" fun k b => match b with
                | true => pPragma ws k
                | false => pAt ws k fun _ => .err
section
variable {g : GW} (H : Facts g) {t : Str} {ws : List Wd} (hl : ws.length < 1000000)
include H hl
theorem v_take {k : Nat} {u : Str} {f : Nat → Bool → PRes} {Q : AV → List MO → Prop} {X : Prop} {d : Nat} (hb : pTake ws k u f ≠ .bad) (hd : 2 ≤ d) (h : ∀ k' b,f k' b ≠ .bad → pTake ws k u f = f k' b → Q (.pv (.bool b)) [st t ws k']) :
    CALL g d 622 [.mut 0,.pv (.str u)] [st t ws k] Q X := by
  obtain ⟨w,hw,hk,e⟩ := at_ok H hl hb
  refine (c_take_key H hw hk).use hd (fun b ν hq => ?_) False.elim
  obtain ⟨rfl,rfl⟩ := hq
  exact h _ _ (by rw [← show pTake ws k u f = _ from e]; exact hb) e
theorem v_sign {k : Nat} {u : Str} {f : Nat → Bool → PRes} {Q : AV → List MO → Prop} {X : Prop} {d : Nat} (hb : pSign ws k u f ≠ .bad) (hd : 2 ≤ d) (h : ∀ k' b,f k' b ≠ .bad → pSign ws k u f = f k' b → Q (.pv (.bool b)) [st t ws k']) :
    CALL g d 629 [.mut 0,.pv (.str u)] [st t ws k] Q X := by
  obtain ⟨w,hw,hk,e⟩ := at_ok H hl hb
  refine (c_take_sign H hw hk).use hd (fun b ν hq => ?_) False.elim
  obtain ⟨rfl,rfl⟩ := hq
  exact h _ _ (by rw [← show pSign ws k u f = _ from e]; exact hb) e
theorem v_name {k : Nat} {f : PV → Nat → PRes} {Q : AV → List MO → Prop} {X : Prop} {d : Nat} (hb : pName ws k f ≠ .bad) (hd : 4 ≤ d) (hx : pName ws k f = .err → X) (h : ∀ p k',f p k' ≠ .bad → pName ws k f = f p k' → Q (.pv p) [st t ws k']) :
    CALL g d 650 [.mut 0] [st t ws k] Q X := by
  obtain ⟨w,hw,hk,e⟩ := at_ok H hl hb
  have e : pName ws k f = match w.free with | true => f w.v (k + 1) | false => .err := e
  refine (c_need_name H hw hk).use hd (fun b ν hq => ?_) (fun hf => hx (by rw [e,hf]))
  obtain ⟨hf,rfl,rfl⟩ := hq
  rw [hf] at e
  exact h _ _ (by rw [← show pName ws k f = f w.v (k + 1) from e]; exact hb) e
theorem c_rollback {k : Nat} (hb : pRollback ws k ≠ .bad) : CALL g 5 246 [.rd 0] [st t ws k] (SP t ws (pRollback ws k)) (pRollback ws k = .err) :=
  have ok := ok_TransactionReader_rollback
  call_intro (fi := fi_TransactionReader_rollback) ok H.f_TransactionReader_rollback (@Subtype.property _ _ (D_TransactionReader_rollback H)) (by
    generalize hr : pRollback ws k = res at hb ⊢
    subst hr
    unfold pRollback at hb ⊢
    refine Exists.intro 667 (Exists.intro 622 (And.intro rfl (And.intro H.m_WordStream_take_key (v_take H hl hb (by decide) fun k1 b1 hb1 e1 => ?_))))
    rw [e1]
    refine And.intro rfl (Exists.intro 667 (Exists.intro 622 (And.intro rfl (And.intro H.m_WordStream_take_key (v_take H hl hb1 (by decide) fun k2 b2 hb2 e2 => ?_)))))
    rw [e2]
    cases b2 with
    | false =>
      refine sel.tt ?_
      refine (c_Rollback H (n := .none)).eqp rfl (Nat.le_of_ble_eq_true rfl) ?_
      exact Back.one rfl ⟨_,_,rfl,rfl,rfl⟩
    | true =>
      refine sel.ff ?_
      refine Exists.intro 667 (Exists.intro 622 (And.intro rfl (And.intro H.m_WordStream_take_key (v_take H hl hb2 (by decide) fun k3 b3 hb3 e3 => ?_))))
      dsimp only
      rw [e3]
      refine And.intro rfl (Exists.intro 667 (Exists.intro 650 (And.intro rfl (And.intro H.m_WordStream_need_name (v_name H hl hb3 (by decide) id fun n k4 hb4 e4 => ?_)))))
      rw [e4]
      refine (c_Rollback H (n := n)).eqp rfl (Nat.le_of_ble_eq_true rfl) ?_
      exact Back.one rfl ⟨_,_,rfl,rfl,rfl⟩)
end
end Mine
end
section
namespace Mine
section
variable {g : GW} (H : Facts g) {t : Str} {ws : List Wd} (hl : ws.length < 1000000)
include H hl
theorem c_begin {k : Nat} (hb : pBegin ws k ≠ .bad) : CALL g 3 239 [.rd 0] [st t ws k] (SP t ws (pBegin ws k)) (pBegin ws k = .err) :=
  have ok := ok_TransactionReader_begin
  call_intro (fi := fi_TransactionReader_begin) ok H.f_TransactionReader_begin (@Subtype.property _ _ (D_TransactionReader_begin H)) (by
    generalize hr : pBegin ws k = res at hb ⊢
    subst hr
    obtain ⟨w,hw,hk,e⟩ := at_ok H hl hb
    rw [show pBegin ws k = _ from e] at hb ⊢
    refine MI rfl H.m_WordStream_is_one_of ?_
    refine (c_is_one_of H hw hk).eqF (Nat.le_of_ble_eq_true rfl) ?_
    cases hc : (w.k == "name" && l_BEGIN_KINDS.any (· == w.t)) with
    | true =>
      rw [hc] at hb
      refine sel.tt ?_
      refine MI rfl H.m_WordStream_go ?_
      refine (c_go H hw hk).eqF (Nat.le_of_ble_eq_true rfl) ?_
      dsimp only at hb ⊢
      cases hlow : Builtin.Str.tooLong (Txt.lower w.t).length with
      | true => rw [hlow] at hb; exact absurd rfl hb
      | false =>
        rw [hlow] at hb
        dsimp only at hb ⊢
        refine And.intro rfl (And.intro hlow ?_)
        refine Exists.intro 667 (Exists.intro 622 (And.intro rfl (And.intro H.m_WordStream_take_key (v_take (k := goK w k) H hl hb (by decide) fun k1 b1 hb1 e1 => ?_))))
        rw [e1]
        refine And.intro rfl ?_
        refine (c_Begin H (k := Txt.lower w.t)).eqp rfl (Nat.le_of_ble_eq_true rfl) ?_
        exact Back.one rfl ⟨_,_,rfl,rfl,rfl⟩
    | false =>
      rw [hc] at hb
      refine sel.ff ?_
      dsimp only at hb ⊢
      refine Exists.intro 667 (Exists.intro 622 (And.intro rfl (And.intro H.m_WordStream_take_key (v_take H hl hb (by decide) fun k1 b1 hb1 e1 => ?_))))
      rw [e1]
      refine And.intro rfl ?_
      refine (c_Begin H (k := "deferred")).eqp rfl (Nat.le_of_ble_eq_true rfl) ?_
      exact Back.one rfl ⟨_,_,rfl,rfl,rfl⟩)
theorem c_pragma {k : Nat} (hb : pPragma ws k ≠ .bad) : CALL g 5 253 [.rd 0] [st t ws k] (SP t ws (pPragma ws k)) (pPragma ws k = .err) :=
  have ok := ok_TransactionReader_pragma
  call_intro (fi := fi_TransactionReader_pragma) ok H.f_TransactionReader_pragma (@Subtype.property _ _ (D_TransactionReader_pragma H)) (by
    generalize hr : pPragma ws k = res at hb ⊢
    subst hr
    unfold pPragma at hb ⊢
    refine Exists.intro 667 (Exists.intro 650 (And.intro rfl (And.intro H.m_WordStream_need_name (v_name H hl hb (by decide) id fun n k1 hb1 e1 => ?_))))
    rw [e1]
    refine Exists.intro 667 (Exists.intro 629 (And.intro rfl (And.intro H.m_WordStream_take_sign (v_sign H hl hb1 (by decide) fun k2 b2 hb2 e2 => ?_))))
    rw [e2]
    cases b2 with
    | true =>
      refine sel.tt ?_
      dsimp only at hb2 ⊢
      have hb3 : pSetting ws k2 ≠ .bad := fun z => hb2 (by rw [z]; rfl)
      refine MI rfl H.m_TransactionReader_setting ?_
      refine (c_setting H hl hb3).use (Nat.le_of_ble_eq_true rfl) (fun b ν h => ?_) (fun z => by rw [z]; rfl)
      obtain ⟨v,k3,e3,rfl,rfl⟩ := h
      rw [e3]
      refine (c_Pragma H (n := n) (v := v)).eqp rfl (Nat.le_of_ble_eq_true rfl) ?_
      exact Back.one rfl ⟨_,_,rfl,rfl,rfl⟩
    | false =>
      refine sel.ff ?_
      dsimp only at hb2 ⊢
      refine Exists.intro 667 (Exists.intro 629 (And.intro rfl (And.intro H.m_WordStream_take_sign (v_sign H hl hb2 (by decide) fun k3 b3 hb3 e3 => ?_))))
      rw [e3]
      cases b3 with
      | true =>
        refine sel.tt ?_
        dsimp only at hb3 ⊢
        have hb4 : pSetting ws k3 ≠ .bad := fun z => hb3 (by rw [z]; rfl)
        refine MI rfl H.m_TransactionReader_setting ?_
        refine (c_setting H hl hb4).use (Nat.le_of_ble_eq_true rfl) (fun b ν h => ?_) (fun z => by rw [z]; rfl)
        obtain ⟨v,k4,e4,rfl,rfl⟩ := h
        rw [e4] at hb3 ⊢
        simp only [pBind] at hb3 ⊢
        obtain ⟨w,hw,hk,e5⟩ := at_ok H hl hb3
        rw [e5]
        refine MI rfl H.m_WordStream_need_sign ?_
        refine (c_need_sign H hw hk (u := ")") (by decide)).use (Nat.le_of_ble_eq_true rfl) (fun b ν h => ?_) (fun z => by rw [z])
        obtain ⟨hs,rfl,rfl⟩ := h
        rw [hs]
        refine And.intro rfl ?_
        refine (c_Pragma H (n := n) (v := v)).eqp rfl (Nat.le_of_ble_eq_true rfl) ?_
        exact Back.one rfl ⟨_,_,rfl,rfl,rfl⟩
      | false =>
        refine sel.ff ?_
        refine (c_Pragma H (n := n) (v := .none)).eqp rfl (Nat.le_of_ble_eq_true rfl) ?_
        exact Back.one rfl ⟨_,_,rfl,rfl,rfl⟩)
theorem c_transaction (hb : pTrans ws 0 ≠ .bad) : CALL g 6 232 [.rd 0] [st t ws 0] (SP t ws (pTrans ws 0)) (pTrans ws 0 = .err) :=
  have ok := ok_TransactionReader_transaction
  call_intro (fi := fi_TransactionReader_transaction) ok H.f_TransactionReader_transaction (@Subtype.property _ _ (D_TransactionReader_transaction H)) (by
    generalize hr : pTrans ws 0 = res at hb ⊢
    subst hr
    unfold pTrans at hb ⊢
    refine Exists.intro 667 (Exists.intro 622 (And.intro rfl (And.intro H.m_WordStream_take_key (v_take (k := 0) H hl hb (by decide) fun k1 b1 hb1 e1 => ?_))))
    rw [e1]
    cases b1 with
    | true =>
      refine sel.tt ?_
      dsimp only at hb1 ⊢
      refine MI rfl H.m_TransactionReader_begin ?_
      refine (c_begin H hl hb1).use (Nat.le_of_ble_eq_true rfl) (fun b ν h => ?_) id
      obtain ⟨v,k3,e3,rfl,rfl⟩ := h
      exact Back.one rfl ⟨_,_,e3,rfl,rfl⟩
    | false =>
    refine sel.ff ?_
    dsimp only at hb1 ⊢
    refine Exists.intro 667 (Exists.intro 622 (And.intro rfl (And.intro H.m_WordStream_take_key (v_take H hl hb1 (by decide) fun k2 b2 hb2 e2 => ?_))))
    rw [e2]
    cases b2 with
    | true =>
      refine sel.tt ?_
      dsimp only at hb2 ⊢
      refine sel.tt ?_
      refine Exists.intro 667 (Exists.intro 622 (And.intro rfl (And.intro H.m_WordStream_take_key (v_take H hl hb2 (by decide) fun k3 b3 hb3 e3 => ?_))))
      rw [e3]
      refine And.intro rfl ?_
      refine (c_Commit H).eqp rfl (Nat.le_of_ble_eq_true rfl) ?_
      exact Back.one rfl ⟨_,_,rfl,rfl,rfl⟩
    | false =>
    refine sel.ff ?_
    dsimp only at hb2 ⊢
    refine Exists.intro 667 (Exists.intro 622 (And.intro rfl (And.intro H.m_WordStream_take_key (v_take H hl hb2 (by decide) fun k3 b3 hb3 e3 => ?_))))
    rw [e3]
    cases b3 with
    | true =>
      refine sel.tt (sel.tt ?_)
      dsimp only at hb3 ⊢
      refine Exists.intro 667 (Exists.intro 622 (And.intro rfl (And.intro H.m_WordStream_take_key (v_take H hl hb3 (by decide) fun k4 b4 hb4 e4 => ?_))))
      rw [e4]
      refine And.intro rfl ?_
      refine (c_Commit H).eqp rfl (Nat.le_of_ble_eq_true rfl) ?_
      exact Back.one rfl ⟨_,_,rfl,rfl,rfl⟩
    | false =>
    refine sel.ff (sel.ff ?_)
    dsimp only at hb3 ⊢
    refine Exists.intro 667 (Exists.intro 622 (And.intro rfl (And.intro H.m_WordStream_take_key (v_take H hl hb3 (by decide) fun k4 b4 hb4 e4 => ?_))))
    rw [e4]
    cases b4 with
    | true =>
      refine sel.tt ?_
      dsimp only at hb4 ⊢
      refine MI rfl H.m_TransactionReader_rollback ?_
      refine (c_rollback H hl hb4).use (Nat.le_of_ble_eq_true rfl) (fun b ν h => ?_) id
      obtain ⟨v,k5,e5,rfl,rfl⟩ := h
      exact Back.one rfl ⟨_,_,e5,rfl,rfl⟩
    | false =>
    refine sel.ff ?_
    dsimp only at hb4 ⊢
    refine Exists.intro 667 (Exists.intro 622 (And.intro rfl (And.intro H.m_WordStream_take_key (v_take H hl hb4 (by decide) fun k5 b5 hb5 e5 => ?_))))
    rw [e5]
    cases b5 with
    | true =>
      refine sel.tt ?_
      dsimp only at hb5 ⊢
      refine Exists.intro 667 (Exists.intro 650 (And.intro rfl (And.intro H.m_WordStream_need_name (v_name H hl hb5 (by decide) id fun n k6 hb6 e6 => ?_))))
      rw [e6]
      refine (c_Savepoint H (n := n)).eqp rfl (Nat.le_of_ble_eq_true rfl) ?_
      exact Back.one rfl ⟨_,_,rfl,rfl,rfl⟩
    | false =>
    refine sel.ff ?_
    dsimp only at hb5 ⊢
    refine Exists.intro 667 (Exists.intro 622 (And.intro rfl (And.intro H.m_WordStream_take_key (v_take H hl hb5 (by decide) fun k6 b6 hb6 e6 => ?_))))
    rw [e6]
    cases b6 with
    | true =>
      refine sel.tt ?_
      dsimp only at hb6 ⊢
      refine Exists.intro 667 (Exists.intro 622 (And.intro rfl (And.intro H.m_WordStream_take_key (v_take H hl hb6 (by decide) fun k7 b7 hb7 e7 => ?_))))
      rw [e7]
      refine And.intro rfl (Exists.intro 667 (Exists.intro 650 (And.intro rfl (And.intro H.m_WordStream_need_name (v_name H hl hb7 (by decide) id fun n k8 hb8 e8 => ?_)))))
      rw [e8]
      refine (c_Release H (n := n)).eqp rfl (Nat.le_of_ble_eq_true rfl) ?_
      exact Back.one rfl ⟨_,_,rfl,rfl,rfl⟩
    | false =>
    refine sel.ff ?_
    dsimp only at hb6 ⊢
    refine Exists.intro 667 (Exists.intro 622 (And.intro rfl (And.intro H.m_WordStream_take_key (v_take H hl hb6 (by decide) fun k7 b7 hb7 e7 => ?_))))
    rw [e7]
    cases b7 with
    | true =>
      refine sel.tt ?_
      refine (c_Vacuum H).eqp rfl (Nat.le_of_ble_eq_true rfl) ?_
      exact Back.one rfl ⟨_,_,rfl,rfl,rfl⟩
    | false =>
    refine sel.ff ?_
    dsimp only at hb7 ⊢
    refine Exists.intro 667 (Exists.intro 622 (And.intro rfl (And.intro H.m_WordStream_take_key (v_take H hl hb7 (by decide) fun k8 b8 hb8 e8 => ?_))))
    rw [e8]
    cases b8 with
    | true =>
      refine sel.tt ?_
      dsimp only at hb8 ⊢
      refine MI rfl H.m_TransactionReader_pragma ?_
      refine (c_pragma H hl hb8).use (Nat.le_of_ble_eq_true rfl) (fun b ν h => ?_) id
      obtain ⟨v,k9,e9,rfl,rfl⟩ := h
      exact Back.one rfl ⟨_,_,e9,rfl,rfl⟩
    | false =>
    refine sel.ff ?_
    dsimp only at hb8 ⊢
    obtain ⟨w,hw,hk,e9⟩ := at_ok H hl hb8
    rw [e9]
    refine MI rfl H.m_WordStream_refuse ?_
    exact (c_refuse H hw hk).use (Nat.le_of_ble_eq_true rfl) (fun _ _ h => h.elim) (fun _ => rfl))
end
end Mine
end
section
namespace Mine
local macro_rules | `(tactic| trivial) => `(tactic| (unfold textLine; omega))
local macro_rules | `(tactic| trivial) => `(tactic| (refine tl_le ?_; assumption))
noncomputable def sc (t : Str) (p : Int) : MO := .inst 498 [(1,.pv (.str t)),(3,.pv (.int p)),(4,.mut 1),(5,.pv (.int 0))]
theorem Back.two {o1 o2 o1' o2' : MO} {Q : AV → List MO → Prop} {p : PV} (h1 : belowM 2 o1' = true) (h2 : belowM 2 o2' = true) (h : Q (.pv p) [o1',o2']) : Back [o1,o2] Q (.pv p) [o1',o2'] :=
  ⟨⟨2,.pv p,Nat.le_refl _,rfl,by show (([o1',o2'] : List MO).all (belowM 2)) = true; simp [h1,h2],h⟩⟩
noncomputable def runS (t : Str) (ok : Str → Bool) : Nat → Nat → Nat
  | 0,e => e
  | f + 1,e => match decide (e < t.length) && ok (Txt.item t e) with
    | true => runS t ok f (e + 1)
    | false => e
theorem runS_le {t : Str} {ok : Str → Bool} : ∀ {f e : Nat},e ≤ t.length → runS t ok f e ≤ t.length
  | 0,e,h => h
  | f + 1,e,h => by
    unfold runS
    cases hc : decide (e < t.length) && ok (Txt.item t e) with
    | true => exact runS_le (by rw [Bool.and_eq_true] at hc; exact of_decide_eq_true hc.1)
    | false => exact h
theorem runS_go {t : Str} {ok : Str → Bool} {e : Nat} (he : e ≤ t.length) (h1 : e < t.length) (h2 : ok (Txt.item t e) = true) : runS t ok (t.length - e) e = runS t ok (t.length - (e + 1)) (e + 1) := by
  rw [show t.length - e = (t.length - (e + 1)) + 1 by omega]
  show (match decide (e < t.length) && ok (Txt.item t e) with | true => _ | false => _) = _
  rw [h2,decide_eq_true h1]; rfl
theorem runS_stop {t : Str} {ok : Str → Bool} {e : Nat} (h : ¬ e < t.length ∨ ok (Txt.item t e) = false) : runS t ok (t.length - e) e = e := by
  cases hf : t.length - e with
  | zero => rfl
  | succ f =>
    unfold runS
    rcases h with h | h
    · rw [decide_eq_false h]; rfl
    · rw [h,Bool.and_false]
section
variable {g : GW} (H : Facts g) {t : Str} (ht : t.length ≤ 100000)
include H ht
theorem c_gather {k tx : Str} {v : PV} {p e : Int} {ps : List PV} (hps : ps.length ≤ 100000) : CALL g 3 418 [.mut 0,.pv (.str k),.pv (.str tx),.pv v,.pv (.int e)] [sc t p,.lst ps] (fun b ν => b = .pv .none ∧ ν = [sc t e,.lst (ps ++ [wd k tx v p])]) False :=
  have ok := ok_Scanner_gather
  call_intro (fi := fi_Scanner_gather) ok H.f_Scanner_gather (@Subtype.property _ _ (D_Scanner_gather H)) (by
    refine And.intro ⟨1,ps,rfl,rfl⟩ ?_
    refine (c_Word H (k := k) (t := tx) (v := v) (p := p)).eqp rfl (Nat.le_of_ble_eq_true rfl) ?_
    refine And.intro (by trivial) (And.intro rfl ?_)
    exact Back.two rfl rfl ⟨rfl,rfl⟩)
theorem c_end_of {s : Str} {p : Int} {ps : List PV} {e : Nat} (he : e ≤ t.length) : CALL g 1 439 [.mut 0,.pv (.str s),.pv (.int e)] [sc t p,.lst ps] (fun b ν => b = .pv (.int (runS t (fun x => inStr x s) (t.length - e) e : Nat)) ∧ ν = [sc t p,.lst ps]) False :=
  have ok := ok_Scanner_end_of
  call_intro (fi := fi_Scanner_end_of) ok H.f_Scanner_end_of (@Subtype.property _ _ (D_Scanner_end_of H)) (by
    refine ⟨fun n loc μ => ∃ e',loc = [some (.mut 0),some (.pv (.str s)),some (.pv (.int (e' : Nat))),some (.pv (.str t)),none] ∧ μ = [sc t p,.lst ps] ∧ e' ≤ t.length ∧ n = t.length - e' ∧ runS t (fun x => inStr x s) (t.length - e') e' = runS t (fun x => inStr x s) (t.length - e) e,⟨_,e,rfl,rfl,he,rfl,rfl⟩, ?_⟩
    rintro n loc μ ⟨e',rfl,rfl,he',rfl,hr⟩
    refine And.intro (by trivial) (sel.mk (fun h1 => ?_) (fun h1 => ?_))
    · have h1 : e' < t.length := by have := of_decide_eq_true h1; omega
      refine And.intro ⟨by omega,by omega,by omega⟩ (sel.mk (fun h2 => ?_) (fun h2 => ?_))
      · have h2 : inStr (Txt.item t e') s = true := h2
        refine sel.tt ?_
        refine Exists.intro (t.length - (e' + 1)) (And.intro (by omega) ⟨e' + 1,rfl,rfl,by omega,rfl, ?_⟩)
        rw [← hr,runS_go he' h1 h2]
      · have h2 : inStr (Txt.item t e') s = false := h2
        refine sel.ff ?_
        refine Back.two rfl rfl ⟨?_,rfl⟩
        rw [← hr,runS_stop (.inr h2)]
    · have h1 : ¬ e' < t.length := by have := of_decide_eq_false h1; omega
      refine sel.ff ?_
      refine Back.two rfl rfl ⟨?_,rfl⟩
      rw [← hr,runS_stop (.inl h1)])
end
end Mine
end
section
namespace Mine
local macro_rules | `(tactic| trivial) => `(tactic| (unfold textLine; omega))
local macro_rules | `(tactic| trivial) => `(tactic| (refine tl_le ?_; assumption))
noncomputable def figS (t : Str) (b e : Int) : Str := Txt.lstripChars (Txt.slice t (some b) (some e)) "0"
noncomputable def valS (t : Str) (b e : Int) : Option Int := match decide ((figS t b e).length ≤ 20) with
  | false => none
  | true => match figS t b e != "" with
    | true => PySem.intText? (figS t b e)
    | false => some 0
noncomputable def sFIG:Str:="0123456789"
noncomputable def numS (t : Str) (p : Nat) : Option (Int × Nat) :=
  let e := runS t (fun x => inStr x sFIG) (t.length - p) p
  match Txt.slice t (some p) (some (p + 2)) != "0x" && Txt.slice t (some p) (some (p + 2)) != "0X" && !((p : Int) == (e : Int)) with
  | false => none
  | true => match valS t p e with
    | none => none
    | some n => match decide (n ≤ 9223372036854775808) with
      | false => none
      | true => match Txt.slice t (some e) (some (e + 1)) == "" with
        | true => some (n,e)
        | false => match !(Txt.slice t (some e) (some (e + 1)) == ".") && !(onS (Txt.slice t (some e) (some (e + 1)))) && decide ((Txt.slice t (some e) (some (e + 1))).length = 1) with
          | true => some (n,e)
          | false => none
theorem slice_line {t : Str} {a b : Option Int} (ht : t.length ≤ 100000) : (Txt.slice t a b).length ≤ textLine := Nat.le_trans (Txt.slice_le t a b) (by trivial)
section
variable {g : GW} (H : Facts g) {t : Str} (ht : t.length ≤ 100000)
include H ht
theorem c_value_of {b e n p : Int} {ps : List PV} (hbe : (b == e) = false) (hv : valS t b e = some n) : CALL g 1 481 [.mut 0,.pv (.int b),.pv (.int e),.pv (.int 10)] [sc t p,.lst ps] (fun r ν => r = .pv (.int n) ∧ ν = [sc t p,.lst ps]) False :=
  have ok := ok_Scanner_value_of
  call_intro (fi := fi_Scanner_value_of) ok H.f_Scanner_value_of (@Subtype.property _ _ (D_Scanner_value_of H)) (by
    refine sel.mk (fun h => ?_) (fun _ => ?_)
    · rw [show (b == e) = true from h] at hbe; cases hbe
    refine And.intro (by trivial) (And.intro rfl ?_)
    unfold valS at hv
    cases h20 : decide ((figS t b e).length ≤ 20) with
    | false => rw [h20] at hv; cases hv
    | true =>
    rw [h20] at hv
    have h20' := of_decide_eq_true h20
    refine And.intro (slice_line ht) ?_
    refine And.intro (show (figS t b e).length ≤ textLine by unfold textLine; omega) (sel.mk (fun h => ?_) (fun _ => ?_))
    · exact absurd (of_decide_eq_true h) (by show ¬ ((20 : Int) < ((figS t b e).length : Nat)); omega)
    refine sel.mk (fun h => ?_) (fun h => ?_)
    · have h : (figS t b e != "") = true := h
      rw [h] at hv
      refine And.intro (show (figS t b e).length ≤ 640 by omega) (Exists.intro (.int n) (And.intro ?_ (Back.two rfl rfl ⟨rfl,rfl⟩)))
      show (PySem.intText? (figS t b e)).map PV.int = _
      rw [show PySem.intText? (figS t b e) = some n from hv]; rfl
    · have h : (figS t b e != "") = false := h
      rw [h] at hv
      cases hv
      exact Back.two rfl rfl ⟨rfl,rfl⟩)
theorem c_number {p n : Int} {q e : Nat} {ps : List PV} (hp : p = (q : Nat)) (hq : q ≤ t.length) (hps : ps.length ≤ 100000) (hn : numS t q = some (n,e)) : CALL g 4 474 [.mut 0] [sc t p,.lst ps] (fun r ν => r = .pv .none ∧ ν = [sc t e,.lst (ps ++ [wd "number" "" (.int n) p])]) False :=
  have ok := ok_Scanner_number
  call_intro (fi := fi_Scanner_number) ok H.f_Scanner_number (@Subtype.property _ _ (D_Scanner_number H)) (by
    subst hp
    unfold numS at hn
    dsimp only at hn
    obtain ⟨e',he⟩ : ∃ e',runS t (fun x => inStr x sFIG) (t.length - q) q = e' := ⟨_,rfl⟩
    rw [he] at hn
    split at hn
    · cases hn
    rename_i hc
    simp only [Bool.and_eq_true,Bool.not_eq_true',bne_iff_ne,ne_eq] at hc
    split at hn
    · cases hn
    rename_i m hm
    split at hn
    · cases hn
    rename_i hle
    refine And.intro (by trivial) (And.intro (Nat.le_of_ble_eq_true rfl) (sel.mk (fun h => ?_) (fun _ => ?_)))
    · exfalso
      have h : ((("0x" : Str) == Txt.slice t (some q) (some (q + 2))) || ((("0X" : Str) == Txt.slice t (some q) (some (q + 2))) || false)) = true := h
      simp only [Bool.or_false,Bool.or_eq_true,beq_iff_eq] at h
      rcases h with h | h
      · exact hc.1.1 h.symm
      · exact hc.1.2 h.symm
    refine MI rfl H.m_Scanner_end_of ?_
    refine (c_end_of H ht (s := sFIG) (p := q) (ps := ps) hq).eqF (Nat.le_of_ble_eq_true rfl) ?_
    rw [he]
    refine MI rfl H.m_Scanner_value_of ?_
    refine (c_value_of H ht (b := q) (e := e') (n := m) (p := q) (ps := ps) hc.2 hm).eqF (Nat.le_of_ble_eq_true rfl) ?_
    have hle := of_decide_eq_true hle
    refine sel.mk (fun h => absurd (of_decide_eq_true h) (show ¬ (9223372036854775808 < m) by omega)) (fun _ => ?_)
    refine And.intro (by trivial) ?_
    generalize hs : Txt.slice t (some (e' : Int)) (some ((e' : Int) + 1)) = b at hn
    have gat : ∀ Q : AV → List MO → Prop,(m = n → e' = e → Q (.pv .none) [sc t e,.lst (ps ++ [wd "number" "" (.int n) q])]) → (some (m,e') = some (n,e)) → CALL g 3 418 [.mut 0,.pv (.str "number"),.pv (.str ""),.pv (.int m),.pv (.int e')] [sc t q,.lst ps] Q False := fun Q hq he => by
      cases he
      exact (c_gather H ht hps).use (Nat.le_of_ble_eq_true rfl) (fun b ν h => by obtain ⟨rfl,rfl⟩ := h; exact hq rfl rfl) False.elim
    refine sel.mk (fun h => ?_) (fun h => ?_)
    · have h : (b != "") = true := h
      have h : (b == ("" : Str)) = false := by simpa using h
      rw [h] at hn
      dsimp only at hn
      split at hn
      · rename_i hd
        simp only [Bool.and_eq_true,Bool.not_eq_true',decide_eq_true_eq] at hd
        refine sel.mk (fun h => ?_) (fun _ => ?_)
        · have h : (b == ".") = true := h
          rw [hd.1.1] at h; cases h
        refine (c_goes H (s := b) hd.2).eqp rfl (Nat.le_of_ble_eq_true rfl) ?_
        rw [hd.1.2]
        refine sel.ff (sel.ff (sel.ff ?_))
        refine MI rfl H.m_Scanner_gather ?_
        exact gat _ (fun _ _ => And.intro rfl (Back.two rfl rfl ⟨rfl,rfl⟩)) hn
      · cases hn
    · have h : (b != "") = false := h
      have h : (b == ("" : Str)) = true := by simpa using h
      rw [h] at hn
      refine sel.ff ?_
      refine MI rfl H.m_Scanner_gather ?_
      exact gat _ (fun _ _ => And.intro rfl (Back.two rfl rfl ⟨rfl,rfl⟩)) hn)
end
end Mine
end
section
namespace Mine
local macro_rules | `(tactic| trivial) => `(tactic| (unfold textLine; omega))
local macro_rules | `(tactic| trivial) => `(tactic| (refine tl_le ?_; assumption))
noncomputable def bareS (t : Str) (p : Nat) (sg : Str) : Option (Str × Nat) :=
  let e := runS t onS (t.length - (p + 1)) (p + 1)
  let w := Txt.slice t (some p) (some e)
  match !(inStr sg "xX" && (Txt.slice t (some ((p : Int) + 1)) (some ((p : Int) + 1 + 1)) == "'")) && Txt.isascii w && !(Builtin.Str.tooLong (Txt.upper w).length) with
  | true => some (w,e)
  | false => none
section
variable {g : GW} (H : Facts g) {t : Str} (ht : t.length ≤ 100000)
include H ht
theorem c_bare {sg w : Str} {q e : Nat} {ps : List PV} (hq : q + 1 ≤ t.length) (hps : ps.length ≤ 100000) (hb : bareS t q sg = some (w,e)) : CALL g 4 446 [.mut 0,.pv (.str sg)] [sc t q,.lst ps] (fun r ν => r = .pv .none ∧ ν = [sc t e,.lst (ps ++ [wd "name" (Txt.upper w) (.str w) q])]) False :=
  have ok := ok_Scanner_bare
  call_intro (fi := fi_Scanner_bare) ok H.f_Scanner_bare (@Subtype.property _ _ (D_Scanner_bare H)) (by
    unfold bareS at hb
    dsimp only at hb
    split at hb
    · rename_i hc
      cases hb
      simp only [Bool.and_eq_true,Bool.not_eq_true'] at hc
      obtain ⟨⟨hx,ha⟩,hup⟩ := hc
      have rest : ∀ e',e' ≤ t.length → runS t onS (t.length - e') e' = runS t onS (t.length - (q + 1)) (q + 1) → (¬ e' < t.length ∨ onS (Txt.item t e') = false) → e' = runS t onS (t.length - (q + 1)) (q + 1) := fun e' h1 h2 h3 => by rw [← h2,runS_stop h3]
      refine sel.mk (fun h1 => And.intro (by trivial) (sel.mk (fun h2 => ?_) (fun _ => sel.ff ?_))) (fun h1 => sel.ff ?_)
      · exfalso
        have h1 : inStr sg "xX" = true := h1
        have h2 : (Txt.slice t (some ((q : Int) + 1)) (some ((q : Int) + 1 + 1)) == "'") = true := h2
        rw [h1,h2] at hx; cases hx
      all_goals
        refine ⟨fun n loc μ => ∃ e',loc = [some (.mut 0),some (.pv (.str sg)),some (.pv (.str t)),some (.pv (.int (e' : Nat))),none,none,none,none,none] ∧ μ = [sc t q,.lst ps] ∧ e' ≤ t.length ∧ n = t.length - e' ∧ runS t onS (t.length - e') e' = runS t onS (t.length - (q + 1)) (q + 1),⟨_,q + 1,rfl,rfl,hq,rfl,rfl⟩, ?_⟩
        rintro n loc μ ⟨e',rfl,rfl,he',rfl,hr⟩
        have done : (¬ e' < t.length ∨ onS (Txt.item t e') = false) → sCons (sAsg 4 (pSlice (pLoc 2) (pAttr 3 (pLoc 0)) (pLoc 3))) (sCons (sExpr (pMethA g 4 (pLoc 0) (pCons (fun _ _ _ μ Q => Q (.pv (.str "name")) μ) (pCons (pCallF (g := g) 327 (pCons (pLoc 4) fun _ _ _ μ Q => Q [] μ)) (pCons (pLoc 4) (pCons (pLoc 3) fun _ _ _ μ Q => Q [] μ)))))) fun _ _ loc μ QN _ => QN loc μ) 3 False
            [some (.mut 0),some (.pv (.str sg)),some (.pv (.str t)),some (.pv (.int (e' : Nat))),none,none,none,none,none] [sc t q,.lst ps]
            (fun _ μ' => Back [sc t q,.lst ps] (fun r ν => r = .pv .none ∧ ν = [sc t (runS t onS (t.length - (q + 1)) (q + 1) : Nat),.lst (ps ++ [wd "name" (Txt.upper (Txt.slice t (some q) (some (runS t onS (t.length - (q + 1)) (q + 1) : Nat)))) (.str (Txt.slice t (some q) (some (runS t onS (t.length - (q + 1)) (q + 1) : Nat)))) q])]) (.pv .none) μ')
            (Back [sc t q,.lst ps] (fun r ν => r = .pv .none ∧ ν = [sc t (runS t onS (t.length - (q + 1)) (q + 1) : Nat),.lst (ps ++ [wd "name" (Txt.upper (Txt.slice t (some q) (some (runS t onS (t.length - (q + 1)) (q + 1) : Nat)))) (.str (Txt.slice t (some q) (some (runS t onS (t.length - (q + 1)) (q + 1) : Nat)))) q])])) := fun hstop => by
          have e1 := rest e' he' hr hstop
          rw [← e1] at ha hup ⊢
          refine And.intro (by trivial) ?_
          refine MI rfl H.m_Scanner_gather ?_
          refine (c_folded H ha hup).eqp rfl (Nat.le_of_ble_eq_true rfl) ?_
          refine (c_gather H ht hps).eqF (Nat.le_of_ble_eq_true rfl) ?_
          exact And.intro rfl (Back.two rfl rfl ⟨rfl,rfl⟩)
        refine And.intro (by trivial) (sel.mk (fun h1 => ?_) (fun h1 => ?_))
        · have h1 : e' < t.length := by have := of_decide_eq_true h1; omega
          have step : onS (Txt.item t e') = true → ∃ k,k < t.length - e' ∧ ∃ e2,([some (.mut 0),some (.pv (.str sg)),some (.pv (.str t)),some (.pv (.int ((e' + 1 : Nat) : Int))),none,none,none,none,none] : Loc) = [some (.mut 0),some (.pv (.str sg)),some (.pv (.str t)),some (.pv (.int (e2 : Nat))),none,none,none,none,none] ∧ [sc t q,.lst ps] = [sc t q,.lst ps] ∧ e2 ≤ t.length ∧ k = t.length - e2 ∧ runS t onS (t.length - e2) e2 = runS t onS (t.length - (q + 1)) (q + 1) := fun ho =>
            ⟨t.length - (e' + 1),by omega,e' + 1,rfl,rfl,by omega,rfl,by rw [← hr,runS_go he' h1 ho]⟩
          refine And.intro ⟨by omega,by omega,by omega⟩ (sel.mk (fun h2 => ?_) (fun h2 => ?_))
          · have h2 : inStr (Txt.item t e') sNAME = true := h2
            exact sel.tt (sel.tt (step (by unfold onS; rw [h2]; rfl)))
          · have h2 : inStr (Txt.item t e') sNAME = false := h2
            refine And.intro ⟨by omega,by omega,by omega⟩ (And.intro rfl (sel.mk (fun h3 => ?_) (fun h3 => ?_)))
            · have h3 : decide (127 < ordS (Txt.item t e')) = true := h3
              exact sel.tt (sel.tt (step (by unfold onS; rw [h2,h3]; rfl)))
            · have h3 : decide (127 < ordS (Txt.item t e')) = false := h3
              exact sel.ff (sel.ff (done (.inr (by unfold onS; rw [h2,h3]; rfl))))
        · have h1 : ¬ e' < t.length := by have := of_decide_eq_false h1; omega
          exact sel.ff (done (.inl h1))
    · cases hb)
end
end Mine
end
section
namespace Mine
local macro_rules | `(tactic| trivial) => `(tactic| (unfold textLine; omega))
local macro_rules | `(tactic| trivial) => `(tactic| (refine tl_le ?_; assumption))
noncomputable def markS (t : Str) (q : Int) (sg : Str) : Bool :=
  !(Txt.slice t (some q) (some (q + 2)) == "--") && !(Txt.slice t (some q) (some (q + 2)) == "/*") && !(l_SIGNS_OF_TWO.any (· == Txt.slice t (some q) (some (q + 2)))) && inStr sg "(),.;+-*/%=<>&|~"
section
variable {g : GW} (H : Facts g) {t : Str} (ht : t.length ≤ 100000)
include H ht
theorem c_mark {sg : Str} {q : Int} {ps : List PV} (hps : ps.length ≤ 100000) (hm : markS t q sg = true) : CALL g 4 488 [.mut 0,.pv (.str sg)] [sc t q,.lst ps] (fun r ν => r = .pv .none ∧ ν = [sc t (q + 1),.lst (ps ++ [wd "sign" sg .none q])]) False :=
  have ok := ok_Scanner_mark
  call_intro (fi := fi_Scanner_mark) ok H.f_Scanner_mark (@Subtype.property _ _ (D_Scanner_mark H)) (by
    unfold markS at hm
    simp only [Bool.and_eq_true,Bool.not_eq_true'] at hm
    obtain ⟨⟨⟨h1,h2⟩,h3⟩,h4⟩ := hm
    refine And.intro (by trivial) (sel.mk (fun h => ?_) (fun _ => sel.mk (fun h => ?_) (fun _ => sel.mk (fun h => ?_) (fun _ => sel.mk (fun _ => ?_) (fun h => ?_)))))
    · have h : (Txt.slice t (some q) (some (q + 2)) == "--") = true := h
      rw [h1] at h; cases h
    · have h : (Txt.slice t (some q) (some (q + 2)) == "/*") = true := h
      rw [h2] at h; cases h
    · have h : (false ^^ l_SIGNS_OF_TWO.any (· == Txt.slice t (some q) (some (q + 2)))) = true := h
      rw [h3] at h; cases h
    · refine MI rfl H.m_Scanner_gather ?_
      refine (c_gather H ht hps).eqF (Nat.le_of_ble_eq_true rfl) ?_
      exact And.intro rfl (Back.two rfl rfl ⟨rfl,rfl⟩)
    · have h : inStr sg "(),.;+-*/%=<>&|~" = false := h
      rw [h4] at h; cases h)
end
end Mine
end
section
namespace Mine
local macro_rules | `(tactic| trivial) => `(tactic| (unfold textLine; omega))
local macro_rules | `(tactic| trivial) => `(tactic| (refine tl_le ?_; assumption))
noncomputable def closeS (t q : Str) : Nat → Int → List Str → Option (List Str × Int)
  | 0,_,_ => none
  | f + 1,b,ps => cond (decide (0 ≤ Txt.find3 t q b)) (cond (Txt.slice t (some (Txt.find3 t q b + 1)) (some (Txt.find3 t q b + 2)) == q)
      (closeS t q f (Txt.find3 t q b + 2) (ps ++ [Txt.slice t (some b) (some (Txt.find3 t q b + 1))]))
      (some (ps ++ [Txt.slice t (some b) (some (Txt.find3 t q b))],Txt.find3 t q b + 1))) none
theorem closeS_s (t q : Str) (f : Nat) (b : Int) (ps : List Str) : closeS t q (f + 1) b ps = cond (decide (0 ≤ Txt.find3 t q b)) (cond (Txt.slice t (some (Txt.find3 t q b + 1)) (some (Txt.find3 t q b + 2)) == q)
      (closeS t q f (Txt.find3 t q b + 2) (ps ++ [Txt.slice t (some b) (some (Txt.find3 t q b + 1))]))
      (some (ps ++ [Txt.slice t (some b) (some (Txt.find3 t q b))],Txt.find3 t q b + 1))) none := rfl
theorem strsOf_map : ∀ l : List Str,strsOf (l.map PV.str) = some l
  | [] => rfl
  | x :: l => by show (strsOf (l.map PV.str)).map (x :: ·) = _; rw [strsOf_map l]; rfl
theorem Back.three {o1 o2 o1' o2' o3 : MO} {Q : AV → List MO → Prop} {p : PV} (h1 : belowM 2 o1' = true) (h2 : belowM 2 o2' = true) (h : Q (.pv p) [o1',o2']) : Back [o1,o2] Q (.pv p) [o1',o2',o3] :=
  ⟨⟨2,.pv p,Nat.le_refl _,rfl,by show (([o1',o2'] : List MO).all (belowM 2)) = true; simp [h1,h2],h⟩⟩
section
variable {g : GW} (H : Facts g) {t : Str} (ht : t.length ≤ 100000)
include H ht
set_option maxHeartbeats 4000000 in
theorem c_closing {qt : Str} {q b e : Int} {f : Nat} {parts : List Str} {ps : List PV} (hf : f ≤ 1000) (hc : closeS t qt f b [] = some (parts,e)) (hj : JoinOk "" parts = true) :
    CALL g 2 453 [.mut 0,.pv (.str qt),.pv (.int b)] [sc t q,.lst ps] (fun r ν => r = .pv (.tup [.str (Txt.join "" parts),.int e]) ∧ ν = [sc t q,.lst ps]) False :=
  have ok := ok_Scanner_closing
  call_intro (fi := fi_Scanner_closing) ok H.f_Scanner_closing (@Subtype.property _ _ (D_Scanner_closing H)) (by
    refine And.intro (Nat.zero_le _) (And.intro rfl ?_)
    refine ⟨fun n loc μ => ∃ b' ps',loc = [some (.mut 0),some (.pv (.str qt)),some (.pv (.int b')),some (.mut 2),some (.pv (.int (Txt.find3 t qt b')))] ∧ μ = [sc t q,.lst ps,.lst (ps'.map PV.str)] ∧ closeS t qt n b' ps' = some (parts,e) ∧ ps'.length + n ≤ 1000,⟨f,b,[],rfl,rfl,hc,by simpa using hf⟩, ?_⟩
    rintro n loc μ ⟨b',ps',rfl,rfl,hcl,hlen⟩
    cases n with
    | zero => cases hcl
    | succ n =>
    rw [closeS_s] at hcl
    cases h0 : decide (0 ≤ Txt.find3 t qt b') with
    | false => rw [h0,cond_false] at hcl; cases hcl
    | true =>
    rw [h0,cond_true] at hcl
    have h0' := of_decide_eq_true h0
    refine sel.mk (fun _ => And.intro (by trivial) ?_) (fun h => by rw [show decide (0 ≤ Txt.find3 t qt b') = false from h] at h0; cases h0)
    have lp : (ps'.map PV.str).length ≤ textLine := by rw [List.length_map]; unfold textLine; omega
    cases h1 : Txt.slice t (some (Txt.find3 t qt b' + 1)) (some (Txt.find3 t qt b' + 2)) == qt with
    | true =>
      rw [h1,cond_true] at hcl
      refine sel.mk (fun _ => sel.tt ?_) (fun h => by rw [show (Txt.slice t (some (Txt.find3 t qt b' + 1)) (some (Txt.find3 t qt b' + 2)) == qt) = false from h] at h1; cases h1)
      refine And.intro ⟨2,_,rfl,rfl⟩ (And.intro (by trivial) (And.intro lp (And.intro rfl (And.intro rfl ?_))))
      refine Exists.intro n (And.intro (Nat.lt_succ_self _) ⟨Txt.find3 t qt b' + 2,ps' ++ [Txt.slice t (some b') (some (Txt.find3 t qt b' + 1))],rfl, ?_,hcl,by rw [List.length_append]; simp only [List.length_singleton]; omega⟩)
      rw [List.map_append]; rfl
    | false =>
      rw [h1,cond_false] at hcl
      cases hcl
      refine sel.mk (fun h => by rw [show (Txt.slice t (some (Txt.find3 t qt b' + 1)) (some (Txt.find3 t qt b' + 2)) == qt) = true from h] at h1; cases h1) (fun _ => sel.ff (sel.mk (fun h => ?_) (fun _ => ?_)))
      · exact absurd (of_decide_eq_true h) (show ¬ (Txt.find3 t qt b' < 0) by omega)
      refine And.intro ⟨2,_,rfl,rfl⟩ (And.intro (by trivial) (And.intro lp (And.intro rfl (And.intro rfl (And.intro trivial ?_)))))
      refine Exists.intro (.str (Txt.join "" _)) (And.intro ?_ (And.intro (Nat.le_of_ble_eq_true rfl) (Back.three rfl rfl ⟨rfl,rfl⟩)))
      have e1 : strsOf (ps'.map PV.str ++ [PV.str (Txt.slice t (some b') (some (Txt.find3 t qt b')))]) = some (ps' ++ [Txt.slice t (some b') (some (Txt.find3 t qt b'))]) := by
        rw [← strsOf_map,List.map_append]; rfl
      show (strsOf (ps'.map PV.str ++ [PV.str (Txt.slice t (some b') (some (Txt.find3 t qt b')))])).bind _ = _
      rw [e1]
      show (if JoinOk "" _ = true then _ else _) = _
      rw [if_pos hj])
end
end Mine
end
section
namespace Mine
local macro_rules | `(tactic| trivial) => `(tactic| (unfold textLine; omega))
local macro_rules | `(tactic| trivial) => `(tactic| (refine tl_le ?_; assumption))
noncomputable def quoteS (t : Str) (q : Int) (sg : Str) : Option (Str × Str × Int) :=
  cond (sg == "[") (cond (decide (0 ≤ Txt.find3 t "]" q)) (some ("name",Txt.slice t (some (q + 1)) (some (Txt.find3 t "]" q)),Txt.find3 t "]" q + 1)) none)
    ((closeS t sg 1000 (q + 1) []).bind fun r => cond (JoinOk "" r.1) (some (cond (sg == "'") "text" "name",Txt.join "" r.1,r.2)) none)
section
variable {g : GW} (H : Facts g) {t : Str} (ht : t.length ≤ 100000)
include H ht
theorem c_quoted {sg k v : Str} {q e : Int} {ps : List PV} (hps : ps.length ≤ 100000) (hb : quoteS t q sg = some (k,v,e)) : CALL g 4 460 [.mut 0,.pv (.str sg)] [sc t q,.lst ps] (fun r ν => r = .pv .none ∧ ν = [sc t e,.lst (ps ++ [wd k "" (.str v) q])]) False :=
  have ok := ok_Scanner_quoted_word
  call_intro (fi := fi_Scanner_quoted_word) ok H.f_Scanner_quoted_word (@Subtype.property _ _ (D_Scanner_quoted_word H)) (by
    unfold quoteS at hb
    cases h1 : sg == ("[" : Str) with
    | true =>
      rw [h1,cond_true] at hb
      cases h2 : decide (0 ≤ Txt.find3 t "]" q) with
      | false => rw [h2] at hb; cases hb
      | true =>
      rw [h2,cond_true] at hb
      cases hb
      have h2' := of_decide_eq_true h2
      refine sel.mk (fun _ => ?_) (fun h => by rw [show (sg == ("[" : Str)) = false from h] at h1; cases h1)
      refine And.intro rfl ?_
      refine sel.mk (fun h => absurd (of_decide_eq_true h) (show ¬ (Txt.find3 t "]" q < 0) by omega)) (fun _ => ?_)
      refine MI rfl H.m_Scanner_gather ?_
      refine And.intro (by trivial) ?_
      refine (c_gather H ht hps).eqF (Nat.le_of_ble_eq_true rfl) ?_
      exact And.intro rfl (Back.two rfl rfl ⟨rfl,rfl⟩)
    | false =>
      rw [h1,cond_false] at hb
      cases hc : closeS t sg 1000 (q + 1) [] with
      | none => rw [hc] at hb; cases hb
      | some r =>
      obtain ⟨parts,e'⟩ := r
      rw [hc] at hb
      dsimp only [Option.bind] at hb
      cases hj : JoinOk "" parts with
      | false => rw [hj] at hb; cases hb
      | true =>
      rw [hj,cond_true] at hb
      refine sel.mk (fun h => by rw [show (sg == ("[" : Str)) = true from h] at h1; cases h1) (fun _ => ?_)
      refine MI rfl H.m_Scanner_closing ?_
      refine (c_closing H ht (Nat.le_refl _) hc hj).eqF (Nat.le_of_ble_eq_true rfl) ?_
      refine MI rfl H.m_Scanner_gather ?_
      refine sel.mk (fun h2 => ?_) (fun h2 => ?_)
      all_goals
        have h2 : (sg == ("'" : Str)) = _ := h2
        rw [h2] at hb
        cases hb
        refine (c_gather H ht hps).eqF (Nat.le_of_ble_eq_true rfl) ?_
        exact And.intro rfl (Back.two rfl rfl ⟨rfl,rfl⟩))
end
end Mine
end
section
namespace Mine
local macro_rules | `(tactic| trivial) => `(tactic| (unfold textLine; omega))
local macro_rules | `(tactic| trivial) => `(tactic| (refine tl_le ?_; assumption))
noncomputable def scanS (t : Str) : Nat → Nat → List Wd → Option (List Wd)
  | 0,_,_ => none
  | f + 1,q,ws => cond (decide (q < t.length))
      (cond (inStr (Txt.item t q) " \t\n\r\x0c") (scanS t f (q + 1) ws)
        (cond (begS (Txt.item t q)) ((bareS t q (Txt.item t q)).bind fun r => scanS t f r.2 (ws ++ [⟨"name",Txt.upper r.1,.str r.1,q⟩]))
          (cond (inStr (Txt.item t q) "0123456789") ((numS t q).bind fun r => scanS t f r.2 (ws ++ [⟨"number","",.int r.1,q⟩]))
            (cond (inStr (Txt.item t q) "'\"`[") ((quoteS t q (Txt.item t q)).bind fun r => cond (decide (0 ≤ r.2.2)) (scanS t f r.2.2.toNat (ws ++ [⟨r.1,"",.str r.2.1,q⟩])) none)
              (cond (markS t q (Txt.item t q)) (scanS t f (q + 1) (ws ++ [⟨"sign",Txt.item t q,.none,q⟩])) none)))))
      (some (ws ++ [⟨"end","",.none,q⟩]))
theorem scanS_s (t : Str) (f q : Nat) (ws : List Wd) : scanS t (f + 1) q ws = cond (decide (q < t.length))
      (cond (inStr (Txt.item t q) " \t\n\r\x0c") (scanS t f (q + 1) ws)
        (cond (begS (Txt.item t q)) ((bareS t q (Txt.item t q)).bind fun r => scanS t f r.2 (ws ++ [⟨"name",Txt.upper r.1,.str r.1,q⟩]))
          (cond (inStr (Txt.item t q) "0123456789") ((numS t q).bind fun r => scanS t f r.2 (ws ++ [⟨"number","",.int r.1,q⟩]))
            (cond (inStr (Txt.item t q) "'\"`[") ((quoteS t q (Txt.item t q)).bind fun r => cond (decide (0 ≤ r.2.2)) (scanS t f r.2.2.toNat (ws ++ [⟨r.1,"",.str r.2.1,q⟩])) none)
              (cond (markS t q (Txt.item t q)) (scanS t f (q + 1) (ws ++ [⟨"sign",Txt.item t q,.none,q⟩])) none)))))
      (some (ws ++ [⟨"end","",.none,q⟩])) := rfl
theorem map_snoc (ws : List Wd) (w : Wd) : (ws ++ [w]).map Wd.pv = ws.map Wd.pv ++ [wd w.k w.t w.v w.p] := by rw [List.map_append]; rfl
section
variable {g : GW} (H : Facts g) {t : Str} (ht : t.length ≤ 100000)
include H ht
set_option maxHeartbeats 4000000 in
theorem c_run {ws : List Wd} (hs : scanS t 1000 0 [] = some ws) : CALL g 6 432 [.mut 0] [sc t 0,.lst []] (fun r ν => r = .mut 1 ∧ ∃ p,ν = [sc t p,.lst (ws.map Wd.pv)]) False :=
  have ok := ok_Scanner_run
  call_intro (fi := fi_Scanner_run) ok H.f_Scanner_run (@Subtype.property _ _ (D_Scanner_run H)) (by
    refine And.intro (by trivial) ?_
    refine ⟨fun n loc μ => ∃ q ws' sg,loc = [some (.mut 0),some (.pv (.int (t.length : Nat))),sg,none,none,none,none,none,none] ∧ μ = [sc t (q : Nat),.lst (ws'.map Wd.pv)] ∧ scanS t n q ws' = some ws ∧ ws'.length + n ≤ 1000,⟨1000,0,[],none,rfl,rfl,hs,Nat.le_refl _⟩, ?_⟩
    rintro n loc μ ⟨q,ws',sg,rfl,rfl,hcl,hlen⟩
    cases n with
    | zero => cases hcl
    | succ n =>
    rw [scanS_s] at hcl
    have lp : (ws'.map Wd.pv).length ≤ 100000 := by rw [List.length_map]; omega
    have next : ∀ (q' : Nat) (w : Wd) (sg' : Option AV),scanS t n q' (ws' ++ [w]) = some ws → ∃ k,k < n + 1 ∧ ∃ q2 ws2 sg2,([some (.mut 0),some (.pv (.int (t.length : Nat))),sg',none,none,none,none,none,none] : Loc) = [some (.mut 0),some (.pv (.int (t.length : Nat))),sg2,none,none,none,none,none,none] ∧ [sc t (q' : Nat),.lst (ws'.map Wd.pv ++ [wd w.k w.t w.v w.p])] = [sc t (q2 : Nat),.lst (ws2.map Wd.pv)] ∧ scanS t k q2 ws2 = some ws ∧ ws2.length + k ≤ 1000 := fun q' w sg' h =>
      ⟨n,Nat.lt_succ_self _,q',ws' ++ [w],sg',rfl,by rw [map_snoc],h,by rw [List.length_append]; simp only [List.length_singleton]; omega⟩
    cases h0 : decide (q < t.length) with
    | false =>
      rw [h0,cond_false] at hcl
      have h0' := of_decide_eq_false h0
      cases hcl
      refine sel.mk (fun h => absurd (of_decide_eq_true h) (show ¬ ((q : Int) < ((t.length : Nat) : Int)) by omega)) (fun _ => ?_)
      refine MI rfl H.m_Scanner_gather ?_
      refine (c_gather H ht lp).eqF (Nat.le_of_ble_eq_true rfl) ?_
      refine And.intro rfl ?_
      exact ⟨⟨2,.mut 1,Nat.le_refl _,rfl,rfl,rfl,q,by rw [map_snoc]; rfl⟩⟩
    | true =>
      rw [h0,cond_true] at hcl
      have h0' := of_decide_eq_true h0
      refine sel.mk (fun _ => ?_) (fun h => absurd (show (q : Int) < ((t.length : Nat) : Int) by omega) (of_decide_eq_false h))
      refine And.intro ⟨by omega,by omega,by omega⟩ ?_
      have step : ∀ (q' : Nat),scanS t n q' ws' = some ws → ∃ k,k < n + 1 ∧ ∃ q2 ws2 sg2,([some (.mut 0),some (.pv (.int (t.length : Nat))),some (.pv (.str (Txt.item t q))),none,none,none,none,none,none] : Loc) = [some (.mut 0),some (.pv (.int (t.length : Nat))),sg2,none,none,none,none,none,none] ∧ [sc t (q' : Nat),.lst (ws'.map Wd.pv)] = [sc t (q2 : Nat),.lst (ws2.map Wd.pv)] ∧ scanS t k q2 ws2 = some ws ∧ ws2.length + k ≤ 1000 := fun q' h =>
        ⟨n,Nat.lt_succ_self _,q',ws',_,rfl,rfl,h,by omega⟩
      cases hB : inStr (Txt.item t q) " \t\n\r\x0c" with
      | true =>
        rw [hB,cond_true] at hcl
        refine sel.mk (fun _ => ?_) (fun h => by rw [show inStr (Txt.item t q) " \t\n\r\x0c" = false from h] at hB; cases hB)
        exact step (q + 1) hcl
      | false =>
      rw [hB,cond_false] at hcl
      refine sel.mk (fun h => by rw [show inStr (Txt.item t q) " \t\n\r\x0c" = true from h] at hB; cases hB) (fun _ => ?_)
      cases hL : begS (Txt.item t q) with
      | true =>
        rw [hL,cond_true] at hcl
        cases hb : bareS t q (Txt.item t q) with
        | none => rw [hb] at hcl; cases hcl
        | some r =>
        obtain ⟨w,e⟩ := r
        rw [hb] at hcl
        have hcl : scanS t n e (ws' ++ [⟨"name",Txt.upper w,.str w,q⟩]) = some ws := hcl
        have go := next e _ (some (.pv (.str (Txt.item t q)))) hcl
        refine sel.mk (fun h1 => sel.tt ?_) (fun h1 => And.intro rfl (sel.mk (fun h2 => sel.tt ?_) (fun h2 => ?_)))
        · refine MI rfl H.m_Scanner_bare ?_
          refine (c_bare H ht h0' lp hb).eqF (Nat.le_of_ble_eq_true rfl) ?_
          exact And.intro rfl go
        · refine MI rfl H.m_Scanner_bare ?_
          refine (c_bare H ht h0' lp hb).eqF (Nat.le_of_ble_eq_true rfl) ?_
          exact And.intro rfl go
        · exfalso
          unfold begS at hL
          rw [show inStr (Txt.item t q) sLETTERS = false from h1,show decide (127 < ordS (Txt.item t q)) = false from h2] at hL
          cases hL
      | false =>
      rw [hL,cond_false] at hcl
      refine sel.mk (fun h1 => ?_) (fun h1 => And.intro rfl (sel.mk (fun h2 => ?_) (fun h2 => sel.ff ?_)))
      · exfalso
        unfold begS at hL
        rw [show inStr (Txt.item t q) sLETTERS = true from h1] at hL; cases hL
      · exfalso
        unfold begS at hL
        rw [show decide (127 < ordS (Txt.item t q)) = true from h2,Bool.or_true] at hL; cases hL
      cases hF : inStr (Txt.item t q) "0123456789" with
      | true =>
        rw [hF,cond_true] at hcl
        refine sel.mk (fun _ => ?_) (fun h => by rw [show inStr (Txt.item t q) "0123456789" = false from h] at hF; cases hF)
        cases hb : numS t q with
        | none => rw [hb] at hcl; cases hcl
        | some r =>
        obtain ⟨w,e⟩ := r
        rw [hb] at hcl
        have hcl : scanS t n e (ws' ++ [⟨"number","",.int w,q⟩]) = some ws := hcl
        have go := next e _ (some (.pv (.str (Txt.item t q)))) hcl
        refine MI rfl H.m_Scanner_number ?_
        refine (c_number H ht rfl (by omega) lp hb).eqF (Nat.le_of_ble_eq_true rfl) ?_
        exact And.intro rfl go
      | false =>
      rw [hF,cond_false] at hcl
      refine sel.mk (fun h => by rw [show inStr (Txt.item t q) "0123456789" = true from h] at hF; cases hF) (fun _ => ?_)
      cases hQ : inStr (Txt.item t q) "'\"`[" with
      | true =>
        rw [hQ,cond_true] at hcl
        refine sel.mk (fun _ => ?_) (fun h => by rw [show inStr (Txt.item t q) "'\"`[" = false from h] at hQ; cases hQ)
        cases hb : quoteS t q (Txt.item t q) with
        | none => rw [hb] at hcl; cases hcl
        | some r =>
        obtain ⟨k,w,e⟩ := r
        rw [hb] at hcl
        have hcl : cond (decide (0 ≤ e)) (scanS t n e.toNat (ws' ++ [⟨k,"",.str w,q⟩])) none = some ws := hcl
        cases he : decide (0 ≤ e) with
        | false => rw [he] at hcl; cases hcl
        | true =>
        rw [he,cond_true] at hcl
        have he' := Int.toNat_of_nonneg (of_decide_eq_true he)
        have go := next e.toNat _ (some (.pv (.str (Txt.item t q)))) hcl
        rw [he'] at go
        refine MI rfl H.m_Scanner_quoted_word ?_
        refine (c_quoted H ht lp hb).eqF (Nat.le_of_ble_eq_true rfl) ?_
        exact And.intro rfl go
      | false =>
      rw [hQ,cond_false] at hcl
      refine sel.mk (fun h => by rw [show inStr (Txt.item t q) "'\"`[" = true from h] at hQ; cases hQ) (fun _ => ?_)
      cases hM : markS t q (Txt.item t q) with
      | false => rw [hM] at hcl; cases hcl
      | true =>
      rw [hM,cond_true] at hcl
      have go := next (q + 1) _ (some (.pv (.str (Txt.item t q)))) hcl
      refine MI rfl H.m_Scanner_mark ?_
      refine (c_mark H ht lp hM).eqF (Nat.le_of_ble_eq_true rfl) ?_
      exact And.intro rfl go)
end
end Mine
end
section
namespace Mine
section
variable {g : GW} (H : Facts g) {t : Str} (ht : t.length ≤ 100000)
include H ht
theorem c_Scanner : CALL g 2 498 [.pv (.str t)] [] (fun r ν => r = .mut 0 ∧ ν = [sc t 0,.lst []]) False :=
  have ok := ok_Scanner_init
  call_make H.mk_Scanner (call_intro (fi := fi_Scanner_init) ok H.f_Scanner_init (@Subtype.property _ _ (D_Scanner_init H)) (by
    refine And.intro (Nat.zero_le _) ⟨⟨2,.pv .none,Nat.le_succ _,rfl,rfl,rfl,⟨⟨2,.mut 0,Nat.zero_le _,rfl,rfl,rfl,rfl⟩⟩⟩⟩))
theorem c_read_words {ws : List Wd} (hs : scanS t 1000 0 [] = some ws) : CALLP g 7 509 [.str t] (fun r => r = .lst (ws.map Wd.pv)) False :=
  have ok := ok_read_words
  pure_intro (fi := fi_read_words) ok H.f_read_words (@Subtype.property _ _ (D_read_words H)) (by
    refine (c_Scanner H ht).more (Nat.le_of_ble_eq_true rfl) |>.mono (fun b ν h => ?_) False.elim
    obtain ⟨rfl,rfl⟩ := h
    refine MI rfl H.m_Scanner_run ?_
    refine (c_run H ht hs).use (Nat.le_of_ble_eq_true rfl) (fun b ν h => ?_) False.elim
    obtain ⟨rfl,p,rfl⟩ := h
    exact RP.frz rfl rfl)
theorem c_WordStream {ws : List Wd} (hs : scanS t 1000 0 [] = some ws) : CALL g 9 667 [.pv (.str t)] [] (fun r ν => r = .mut 0 ∧ ν = [st t ws 0]) False :=
  have ok := ok_WordStream_init
  call_make H.mk_WordStream (call_intro (fi := fi_WordStream_init) ok H.f_WordStream_init (@Subtype.property _ _ (D_WordStream_init H)) (by
    refine (c_read_words H ht hs).eqp rfl (Nat.le_of_ble_eq_true rfl) ?_
    refine ⟨⟨1,.pv .none,Nat.le_refl _,rfl,rfl,rfl,⟨⟨1,.mut 0,Nat.zero_le _,rfl,rfl,rfl,rfl⟩⟩⟩⟩))
theorem c_Reader {ws : List Wd} {k : Nat} : CALL g 2 263 [.mut 0] [st t ws k] (fun r ν => r = .rd 0 ∧ ν = [st t ws k]) False :=
  have ok := ok_TransactionReader_init
  call_make H.mk_TransactionReader (call_intro (fi := fi_TransactionReader_init) ok H.f_TransactionReader_init (@Subtype.property _ _ (D_TransactionReader_init H)) (by
    refine ⟨⟨2,.pv .none,Nat.le_refl _,rfl,rfl,rfl,⟨⟨1,.rd 0,Nat.le_refl _,rfl,rfl,rfl,rfl⟩⟩⟩⟩))
end
end Mine
end
section
namespace Mine
theorem len_app (a b : Str) : (a ++ b).length = a.length + b.length := Array.size_append
noncomputable def allOn (n : Str) (k : Nat) : Bool := (List.range k).all fun i => onS (sign n i)
theorem allOn_succ (n : Str) (k : Nat) : allOn n (k + 1) = (allOn n k && onS (sign n k)) := by
  unfold allOn; rw [List.range_succ,List.all_append]; simp
noncomputable def isBareS (n : Str) : Bool := !(n == "") && begS (Txt.item n 0) && !(l_RESERVED.any (· == Txt.upper n)) && !(l_JOINING.any (· == Txt.upper n)) && !(l_QUOTED_ALWAYS.any (· == Txt.upper n)) && allOn n n.cps.size
noncomputable def nameS (n : Str) : Str := cond (isBareS n) n ("\"" ++ Txt.replace n "\"" "\"\"" ++ "\"")
structure NameOk (n : Str) : Prop where
  len : n.length ≤ 1000
  asc : Txt.isascii n = true
  up : Builtin.Str.tooLong (Txt.upper n).length = false
  rep : (Txt.replace n "\"" "\"\"").length ≤ 5000
section
variable {g : GW} (H : Facts g)
include H
theorem c_is_bare {n : Str} (N : NameOk n) : CALLP g 2 517 [.str n] (fun r => r = .bool (isBareS n)) False :=
  have ok := ok_is_bare
  have hlen := N.len
  pure_intro (fi := fi_is_bare) ok H.f_is_bare (@Subtype.property _ _ (D_is_bare H)) (by
    unfold isBareS
    refine sel.mk (fun h1 => sel.tt (RP.pv ?_)) (fun h1 => ?_)
    · rw [show (n == "") = true from h1]; rfl
    have h1' : (n == ("" : Str)) = false := h1
    have hn0 : 0 < n.length := by
      apply Classical.byContradiction
      intro hc
      have : n = "" := by
        cases n with | mk a =>
        have : a = #[] := Array.eq_empty_of_size_eq_zero (by show a.size = 0; have : ¬ 0 < a.size := hc; omega)
        subst this; rfl
      rw [this] at h1'; cases h1'
    rw [h1']
    refine And.intro ⟨by omega,by omega,by omega⟩ ?_
    refine (c_begins H rfl).eqp rfl (Nat.le_of_ble_eq_true rfl) ?_
    refine sel.mk (fun h2 => sel.tt (RP.pv ?_)) (fun h2 => sel.ff ?_)
    · have h2 : (!begS (Txt.item n 0)) = true := h2
      rw [show begS (Txt.item n 0) = false by simpa using h2]; rfl
    have h2 : (!begS (Txt.item n 0)) = false := h2
    rw [show begS (Txt.item n 0) = true by simpa using h2]
    refine (c_folded H N.asc N.up).eqp rfl (Nat.le_of_ble_eq_true rfl) ?_
    refine sel.mk (fun h3 => sel.tt (RP.pv ?_)) (fun h3 => sel.mk (fun h4 => sel.tt (RP.pv ?_)) (fun h4 => sel.mk (fun h5 => sel.tt (RP.pv ?_)) (fun h5 => sel.ff ?_)))
    · have h3 : (false ^^ l_RESERVED.any (· == Txt.upper n)) = true := h3
      rw [Bool.false_xor] at h3
      rw [h3]; rfl
    · have h4 : (false ^^ l_JOINING.any (· == Txt.upper n)) = true := h4
      rw [Bool.false_xor] at h4
      rw [h4]; simp
    · have h5 : (false ^^ l_QUOTED_ALWAYS.any (· == Txt.upper n)) = true := h5
      rw [Bool.false_xor] at h5
      rw [h5]; simp
    have h3 : (false ^^ l_RESERVED.any (· == Txt.upper n)) = false := h3
    have h4 : (false ^^ l_JOINING.any (· == Txt.upper n)) = false := h4
    have h5 : (false ^^ l_QUOTED_ALWAYS.any (· == Txt.upper n)) = false := h5
    rw [Bool.false_xor] at h3 h4 h5
    rw [h3,h4,h5]
    refine ⟨fun i loc μ => ∃ sg,loc = [some (.pv (.str n)),some (.pv (.str (Txt.upper n))),sg,none,none,none,none,none,none] ∧ μ = [] ∧ allOn n i = true,⟨none,rfl,rfl,rfl⟩, ?_, ?_⟩
    · rintro i loc μ hi ⟨sg,rfl,rfl,ha⟩
      refine (c_goes H rfl).eqp rfl (Nat.le_of_ble_eq_true rfl) ?_
      refine sel.mk (fun h6 => RP.pv ?_) (fun h6 => ?_)
      · have h6 : (!onS (sign n i)) = true := h6
        have h6' : onS (sign n i) = false := by simpa using h6
        have : allOn n n.cps.size = false := by
          unfold allOn
          rw [List.all_eq_false]
          exact ⟨i,List.mem_range.mpr hi,by rw [h6']; decide⟩
        rw [this]; rfl
      · have h6 : (!onS (sign n i)) = false := h6
        exact ⟨_,rfl,rfl,by rw [allOn_succ,ha,show onS (sign n i) = true by simpa using h6]; rfl⟩
    · rintro loc μ ⟨sg,rfl,rfl,ha⟩
      exact RP.pv (by rw [ha]; rfl))
theorem c_write_name {n : Str} (N : NameOk n) : CALLP g 4 524 [.str n] (fun r => r = .str (nameS n)) False :=
  have ok := ok_write_name
  have hlen := N.len
  have hrep := N.rep
  pure_intro (fi := fi_write_name) ok H.f_write_name (@Subtype.property _ _ (D_write_name H)) (by
    unfold nameS
    refine (c_is_bare H N).eqp rfl (Nat.le_of_ble_eq_true rfl) ?_
    refine sel.mk (fun h => RP.pv ?_) (fun h => ?_)
    · rw [show isBareS n = true from h]; rfl
    · rw [show isBareS n = false from h]
      refine And.intro (show n.length + (n.length + 1) * 2 ≤ 16777216 by omega) (And.intro ?_ (And.intro ?_ (RP.pv rfl)))
      · have e : ("\"" : Str).length = 1 := rfl
        rw [e]; unfold textLine; omega
      · rw [len_app]
        have e : ("\"" : Str).length = 1 := rfl
        rw [e]; unfold textLine; omega)
end
end Mine
end
section
namespace Mine
inductive Nd where
  | begin (k : Str)
  | commit
  | rollback (n : Option Str)
  | savepoint (n : Str)
  | release (n : Str)
  | pragma (n : Str) (v : PV)
  | vacuum
noncomputable def optV : Option Str → PV
  | some n => .str n
  | none => .none
noncomputable def Nd.pv : Nd → PV
  | .begin k => nBegin k
  | .commit => nCommit
  | .rollback n => nRollback (optV n)
  | .savepoint n => nSavepoint (.str n)
  | .release n => nRelease (.str n)
  | .pragma n v => nPragma (.str n) v
  | .vacuum => nVacuum
noncomputable def Nd.row : Nd → PV
  | .begin k => .tup [.str "begin",.str k]
  | .commit => .tup [.str "commit"]
  | .rollback n => .tup [.str "rollback",optV n]
  | .savepoint n => .tup [.str "savepoint",.str n]
  | .release n => .tup [.str "release",.str n]
  | .pragma n v => .tup [.str "pragma",.str n,v]
  | .vacuum => .tup [.str "vacuum"]
noncomputable def nameOkB (n : Str) : Bool := decide (n.length ≤ 1000) && Txt.isascii n && !(Builtin.Str.tooLong (Txt.upper n).length) && decide ((Txt.replace n "\"" "\"\"").length ≤ 5000)
theorem nameOk_of {n : Str} (h : nameOkB n = true) : NameOk n := by
  unfold nameOkB at h
  simp only [Bool.and_eq_true,decide_eq_true_eq,Bool.not_eq_true'] at h
  exact ⟨h.1.1.1,h.1.1.2,h.1.2,h.2⟩
noncomputable def vlS : PV → Option Str
  | .none => some "NULL"
  | .int i => cond (decide (i.natAbs.log2 < 1920)) (some (Str.ofString (toString i))) none
  | .str s => cond (decide (s.length ≤ 1000) && decide ((Txt.replace s "'" "''").length ≤ 5000)) (some ("'" ++ Txt.replace s "'" "''" ++ "'")) none
  | _ => none
noncomputable def nmS (n : Str) : Option Str := cond (nameOkB n && decide ((nameS n).length ≤ 10000)) (some (nameS n)) none
theorem nmS_of {n s : Str} (h : nmS n = some s) : NameOk n ∧ s = nameS n ∧ (nameS n).length ≤ 10000 := by
  unfold nmS at h
  cases h1 : nameOkB n && decide ((nameS n).length ≤ 10000) with
  | false => rw [h1] at h; cases h
  | true =>
    rw [h1] at h
    rw [Bool.and_eq_true] at h1
    exact ⟨nameOk_of h1.1,(Option.some.inj h).symm,of_decide_eq_true h1.2⟩
noncomputable def Nd.text : Nd → Option Str
  | .begin k => cond (k == "deferred") (some "BEGIN") (cond (!(Builtin.Str.tooLong (Txt.upper k).length) && decide ((Txt.upper k).length ≤ 1000)) (some ("BEGIN" ++ (" " ++ Txt.upper k))) none)
  | .commit => some "COMMIT"
  | .rollback none => some "ROLLBACK"
  | .rollback (some n) => (nmS n).map fun s => "ROLLBACK" ++ (" TO " ++ s)
  | .savepoint n => (nmS n).map fun s => "SAVEPOINT " ++ s
  | .release n => (nmS n).map fun s => "RELEASE " ++ s
  | .pragma n v => (nmS n).bind fun s => match v with
    | .none => some ("PRAGMA " ++ s)
    | v => (vlS v).bind fun u => cond (decide (u.length ≤ 10000)) (some ("PRAGMA " ++ s ++ " = " ++ u)) none
  | .vacuum => some "VACUUM"
section
variable {g : GW} (H : Facts g)
include H
theorem c_write_value {v : PV} {s : Str} (h : vlS v = some s) (hn : v ≠ .none) : CALLP g 1 531 [v] (fun r => r = .str s) False :=
  have ok := ok_write_value
  pure_intro (fi := fi_write_value) ok H.f_write_value (@Subtype.property _ _ (D_write_value H)) (by
    cases v with
    | int i =>
      cases h1 : decide (i.natAbs.log2 < 1920) with
      | false => rw [vlS,h1] at h; cases h
      | true =>
        rw [vlS,h1] at h
        cases h
        refine sel.ff ?_
        refine sel.tt ?_
        exact And.intro (of_decide_eq_true h1) (RP.pv rfl)
    | str x =>
      cases h1 : decide (x.length ≤ 1000) && decide ((Txt.replace x "'" "''").length ≤ 5000) with
      | false => rw [vlS,h1] at h; cases h
      | true =>
        rw [vlS,h1] at h
        cases h
        rw [Bool.and_eq_true] at h1
        have l1 := of_decide_eq_true h1.1
        have l2 := of_decide_eq_true h1.2
        refine sel.ff ?_
        refine sel.ff ?_
        refine sel.tt ?_
        refine And.intro (show x.length + (x.length + 1) * 2 ≤ 16777216 by omega) (And.intro ?_ (And.intro ?_ (RP.pv rfl)))
        · have e : ("'" : Str).length = 1 := rfl
          rw [e]; unfold textLine; omega
        · rw [len_app]
          have e : ("'" : Str).length = 1 := rfl
          rw [e]; unfold textLine; omega
    | none => exact absurd rfl hn
    | _ => cases h)
theorem c_write {nd : Nd} {s : Str} (h : nd.text = some s) : CALLP g 6 538 [nd.pv] (fun r => r = .str s) False :=
  have ok := ok_write_transaction
  pure_intro (fi := fi_write_transaction) ok H.f_write_transaction (@Subtype.property _ _ (D_write_transaction H)) (by
    cases nd with
    | begin k =>
      refine And.intro rfl (sel.tt ?_)
      refine sel.mk (fun hk => ?_) (fun hk => ?_)
      · rw [Nd.text,show (k == ("deferred" : Str)) = true from hk] at h
        cases h
        exact And.intro (Nat.le_of_ble_eq_true rfl) (RP.pv rfl)
      · rw [Nd.text,show (k == ("deferred" : Str)) = false from hk,cond_false] at h
        cases h1 : !(Builtin.Str.tooLong (Txt.upper k).length) && decide ((Txt.upper k).length ≤ 1000) with
        | false => rw [h1] at h; cases h
        | true =>
          rw [h1] at h
          cases h
          rw [Bool.and_eq_true,Bool.not_eq_true'] at h1
          have l2 := of_decide_eq_true h1.2
          refine And.intro rfl (And.intro h1.1 (And.intro ?_ (And.intro ?_ (RP.pv rfl))))
          · have e : (" " : Str).length = 1 := rfl
            rw [e]; unfold textLine; omega
          · rw [len_app]
            have e : (" " : Str).length = 1 := rfl
            have e2 : ("BEGIN" : Str).length = 5 := rfl
            rw [e,e2]; unfold textLine; omega
    | commit =>
      cases h
      refine And.intro rfl (sel.ff (And.intro rfl (sel.tt (RP.pv rfl))))
    | rollback n =>
      refine And.intro rfl (sel.ff (And.intro rfl (sel.ff (And.intro rfl (sel.tt ?_)))))
      cases n with
      | none => cases h; exact sel.tt (And.intro (Nat.le_of_ble_eq_true rfl) (RP.pv rfl))
      | some n =>
        obtain ⟨x,hx,rfl⟩ := Option.map_eq_some_iff.mp h
        obtain ⟨N,rfl,hl⟩ := nmS_of hx
        refine sel.ff ?_
        refine (c_write_name H N).eqp rfl (Nat.le_of_ble_eq_true rfl) ?_
        refine And.intro ?_ (And.intro ?_ (RP.pv rfl))
        · have e : (" TO " : Str).length = 4 := rfl
          rw [e]; unfold textLine; omega
        · rw [len_app]
          have e : (" TO " : Str).length = 4 := rfl
          have e2 : ("ROLLBACK" : Str).length = 8 := rfl
          rw [e,e2]; unfold textLine; omega
    | savepoint n =>
      obtain ⟨x,hx,rfl⟩ := Option.map_eq_some_iff.mp h
      obtain ⟨N,rfl,hl⟩ := nmS_of hx
      refine And.intro rfl (sel.ff (And.intro rfl (sel.ff (And.intro rfl (sel.ff (And.intro rfl (sel.tt ?_)))))))
      refine (c_write_name H N).eqp rfl (Nat.le_of_ble_eq_true rfl) ?_
      refine And.intro ?_ (RP.pv rfl)
      have e : ("SAVEPOINT " : Str).length = 10 := rfl
      rw [e]; unfold textLine; omega
    | release n =>
      obtain ⟨x,hx,rfl⟩ := Option.map_eq_some_iff.mp h
      obtain ⟨N,rfl,hl⟩ := nmS_of hx
      refine And.intro rfl (sel.ff (And.intro rfl (sel.ff (And.intro rfl (sel.ff (And.intro rfl (sel.ff (And.intro rfl (sel.tt ?_)))))))))
      refine (c_write_name H N).eqp rfl (Nat.le_of_ble_eq_true rfl) ?_
      refine And.intro ?_ (RP.pv rfl)
      have e : ("RELEASE " : Str).length = 8 := rfl
      rw [e]; unfold textLine; omega
    | pragma n v =>
      obtain ⟨x,hx,h⟩ := Option.bind_eq_some_iff.mp h
      obtain ⟨N,rfl,hl⟩ := nmS_of hx
      refine And.intro rfl (sel.ff (And.intro rfl (sel.ff (And.intro rfl (sel.ff (And.intro rfl (sel.ff (And.intro rfl (sel.ff (And.intro rfl (sel.tt ?_)))))))))))
      refine (c_write_name H N).eqp rfl (Nat.le_of_ble_eq_true rfl) ?_
      have e : ("PRAGMA " : Str).length = 7 := rfl
      refine And.intro (by rw [e]; unfold textLine; omega) ?_
      have some_val : ∀ {u : Str},v ≠ .none → vlS v = some u → u.length ≤ 10000 → s = "PRAGMA " ++ nameS n ++ " = " ++ u → True := fun _ _ _ _ => trivial
      cases v with
      | none => cases h; exact sel.tt (RP.pv rfl)
      | int i =>
        obtain ⟨u,hu,h⟩ := Option.bind_eq_some_iff.mp h
        cases h1 : decide (u.length ≤ 10000) with
        | false => rw [h1] at h; cases h
        | true =>
        rw [h1] at h
        cases h
        have l := of_decide_eq_true h1
        refine sel.ff ?_
        have e2 : (" = " : Str).length = 3 := rfl
        refine And.intro (by rw [len_app,e,e2]; unfold textLine; omega) ?_
        refine (c_write_value H hu (by intro h; cases h)).eqp rfl (Nat.le_of_ble_eq_true rfl) ?_
        exact And.intro (by rw [len_app,len_app,e,e2]; unfold textLine; omega) (RP.pv rfl)
      | str i =>
        obtain ⟨u,hu,h⟩ := Option.bind_eq_some_iff.mp h
        cases h1 : decide (u.length ≤ 10000) with
        | false => rw [h1] at h; cases h
        | true =>
        rw [h1] at h
        cases h
        have l := of_decide_eq_true h1
        refine sel.ff ?_
        have e2 : (" = " : Str).length = 3 := rfl
        refine And.intro (by rw [len_app,e,e2]; unfold textLine; omega) ?_
        refine (c_write_value H hu (by intro h; cases h)).eqp rfl (Nat.le_of_ble_eq_true rfl) ?_
        exact And.intro (by rw [len_app,len_app,e,e2]; unfold textLine; omega) (RP.pv rfl)
      | _ => cases h
    | vacuum =>
      cases h
      refine And.intro rfl (sel.ff (And.intro rfl (sel.ff (And.intro rfl (sel.ff (And.intro rfl (sel.ff (And.intro rfl (sel.ff (And.intro rfl (sel.ff (And.intro rfl (sel.tt (RP.pv rfl)))))))))))))))
end
end Mine
end
section
namespace Mine
local macro_rules | `(tactic| trivial) => `(tactic| (unfold textLine; omega))
local macro_rules | `(tactic| trivial) => `(tactic| (refine tl_le ?_; assumption))
noncomputable def src (a b : Int) : MO := .lst [.int a,.int b]
structure SrcOk (a b : Int) : Prop where
  a0 : 0 ≤ a
  b0 : 0 ≤ b
  b1 : b < 2147483647
structure Src (ν : List MO) : Prop where
  ex : ∃ a b,ν = [src a b] ∧ SrcOk a b
theorem fmod_lo (x : Int) {y : Int} (h : 0 < y) : 0 ≤ x.fmod y := by rw [Int.fmod_eq_emod_of_nonneg x (by omega)]; exact Int.emod_nonneg x (by omega)
theorem fmod_hi (x : Int) {y : Int} (h : 0 < y) : x.fmod y < y := by rw [Int.fmod_eq_emod_of_nonneg x (by omega)]; exact Int.emod_lt_of_pos x h
theorem fdiv_lo {x y : Int} (hx : 0 ≤ x) (h : 0 < y) : 0 ≤ x.fdiv y := by rw [Int.fdiv_eq_ediv_of_nonneg x (by omega)]; exact Int.ediv_nonneg hx (by omega)
theorem big_lo (c : Int) : 0 ≤ (if -1 - c > c then -1 - c else c) := by split <;> omega
theorem big_ok (x y z : Int) (h0 : 0 ≤ y) (h1 : y < 1000000) (z0 : 0 ≤ z) (z1 : z < 1000) : -(2 ^ 64) < x.fmod 2147483629 + y + z + 17 ∧ x.fmod 2147483629 + y + z + 17 < 2 ^ 64 := by
  have a0 := fmod_lo x (y := 2147483629) (by decide)
  have a1 := fmod_hi x (y := 2147483629) (by decide)
  omega
theorem kk1 {k : Nat} (hk : k < 5) : -(2 ^ 64) < 7919 * (k : Int) ∧ 7919 * (k : Int) < 2 ^ 64 := by omega
theorem kk2 {k : Nat} (hk : k < 5) : 0 ≤ 7919 * (k : Int) * k ∧ 7919 * (k : Int) * k < 1000000 := by
  match k,hk with
  | 0,_ => decide
  | 1,_ => decide
  | 2,_ => decide
  | 3,_ => decide
  | 4,_ => decide
theorem kk3 {k : Nat} (hk : k < 5) : 0 ≤ 31 * (k : Int) ∧ 31 * (k : Int) < 1000 := by omega
theorem kk4 {k : Nat} (hk : k < 5) : (k : Int) < 2 ^ 62 := by omega
section
variable {g : GW} (H : Facts g)
include H
theorem c_take {a b top : Int} (S : SrcOk a b) (t0 : 0 < top) (t1 : top < 1000) : CALL g 1 685 [.mut 0,.pv (.int top)] [src a b] (fun r ν => ∃ i,r = .pv (.int i) ∧ 0 ≤ i ∧ i < top ∧ Src ν) False :=
  have ok := ok__law_take
  call_intro (fi := fi__law_take) ok H.f__law_take (@Subtype.property _ _ (D__law_take H)) (by
    obtain ⟨a0,b0,b1⟩ := S
    refine sub_lst (p := .int a) (by decide) (by decide) rfl (sel.mk (fun h => ?_) (fun h => ?_))
    · have h := of_decide_eq_true h
      refine sub_lst (p := .int a) (by decide) (by decide) rfl ?_
      refine And.intro (by omega) ?_
      refine sub_lst (p := .int a) (by decide) (by decide) rfl ?_
      refine And.intro ⟨t0,by omega⟩ ?_
      exact Back.one rfl ⟨_,rfl,fmod_lo _ t0,fmod_hi _ t0,⟨a.fdiv top,b,rfl,fdiv_lo a0 t0,b0,b1⟩⟩
    · refine sub_lst (p := .int b) (by decide) (by decide) rfl ?_
      have c0 := fmod_lo (b * 39373 + 7) (y := 2147483647) (by decide)
      have c1 := fmod_hi (b * 39373 + 7) (y := 2147483647) (by decide)
      refine And.intro ⟨by omega,by omega⟩ (And.intro (by omega) ?_)
      refine sub_lst (p := .int ((b * 39373 + 7).fmod 2147483647)) (by decide) (by decide) rfl ?_
      refine sub_lst (p := .int ((b * 39373 + 7).fmod 2147483647)) (by decide) (by decide) rfl ?_
      refine And.intro ⟨by omega,by omega⟩ (And.intro (by omega) (And.intro ⟨by omega,by omega⟩ (And.intro (by omega) ?_)))
      exact Back.one rfl ⟨_,rfl,fmod_lo _ t0,fmod_hi _ t0,⟨a,_,rfl,a0,c0,c1⟩⟩)
theorem c_pool {k : Nat} (hk : k < 5) : CALL g 1 678 [.pv .scr,.pv (.int (k : Nat))] [] (fun r ν => r = .mut 0 ∧ Src ν) False :=
  have ok := ok__law_pool
  have hns := H.ns
  call_intro (fi := fi__law_pool) ok H.f__law_pool (@Subtype.property _ _ (D__law_pool H)) (by
    refine And.intro (Nat.le_trans hns (by decide)) (sel.mk (fun h => ?_) (fun h => ?_))
    · have hk' : k < g.ns.length := Int.ofNat_lt.mp (of_decide_eq_true h)
      refine ⟨Int.natCast_nonneg _,kk4 hk,g.ns[k],by rw [Int.toNat_natCast]; exact List.getElem?_eq_getElem hk', ?_⟩
      refine And.intro (by decide) (And.intro (by decide) (And.intro (kk1 hk) (And.intro (by decide) ?_)))
      refine And.intro (big_ok _ _ _ (kk2 hk).1 (kk2 hk).2 (kk3 hk).1 (kk3 hk).2) (And.intro (by decide) ?_)
      refine ⟨by decide,by decide,by decide +kernel, ?_⟩
      exact sel.mk (fun h2 => And.intro (Nat.le_of_ble_eq_true rfl) ⟨⟨1,.mut 0,Nat.zero_le _,rfl,rfl,rfl,⟨_,_,rfl,big_lo _,fmod_lo _ (by decide),fmod_hi _ (by decide)⟩⟩⟩)
        (fun h2 => And.intro (Nat.le_of_ble_eq_true rfl) ⟨⟨1,.mut 0,Nat.zero_le _,rfl,rfl,rfl,⟨_,_,rfl,Int.le_refl _,fmod_lo _ (by decide),fmod_hi _ (by decide)⟩⟩⟩)
    · clear h
      refine And.intro (by decide) (And.intro (by decide) (And.intro (kk1 hk) (And.intro (by decide) ?_)))
      refine And.intro (big_ok _ _ _ (kk2 hk).1 (kk2 hk).2 (kk3 hk).1 (kk3 hk).2) (And.intro (by decide) ?_)
      refine ⟨by decide,by decide,by decide +kernel, ?_⟩
      exact sel.mk (fun h2 => And.intro (Nat.le_of_ble_eq_true rfl) ⟨⟨1,.mut 0,Nat.zero_le _,rfl,rfl,rfl,⟨_,_,rfl,big_lo _,fmod_lo _ (by decide),fmod_hi _ (by decide)⟩⟩⟩)
        (fun h2 => And.intro (Nat.le_of_ble_eq_true rfl) ⟨⟨1,.mut 0,Nat.zero_le _,rfl,rfl,rfl,⟨_,_,rfl,Int.le_refl _,fmod_lo _ (by decide),fmod_hi _ (by decide)⟩⟩⟩))
theorem c_one {a b : Int} {ps : List PV} (S : SrcOk a b) (t0 : 0 < ps.length) (t1 : ps.length < 1000) : CALL g 3 692 [.mut 0,.pv (.lst ps)] [src a b] (fun r ν => ∃ p,r = .pv p ∧ p ∈ ps ∧ Src ν) False :=
  have ok := ok__law_one
  call_intro (fi := fi__law_one) ok H.f__law_one (@Subtype.property _ _ (D__law_one H)) (by
    refine And.intro (by trivial) ?_
    refine (c_take H S (by omega) (by omega)).use (Nat.le_of_ble_eq_true rfl) (fun b ν h => ?_) False.elim
    obtain ⟨i,rfl,h0,h1,⟨a',b',rfl,S'⟩⟩ := h
    have hi : i.toNat < ps.length := by omega
    refine sub_lst (p := ps[i.toNat]) h0 (by omega) (List.getElem?_eq_getElem hi) ?_
    exact Back.one rfl ⟨_,rfl,List.getElem_mem hi,⟨a',b',rfl,S'⟩⟩)
theorem k_take {a b top : Int} {d : Nat} {Q : AV → List MO → Prop} {X : Prop} (S : SrcOk a b) (t0 : 0 < top) (t1 : top < 1000) (hd : 1 ≤ d) (q : ∀ i a' b',SrcOk a' b' → Q (.pv (.int i)) [src a' b']) : CALL g d 685 [.mut 0,.pv (.int top)] [src a b] Q X :=
  (c_take H S t0 t1).use hd (fun b ν ⟨i,e,_,_,⟨a',b',e2,S'⟩⟩ => by subst e e2; exact q i a' b' S') False.elim
theorem k_oneS {a b : Int} {d : Nat} {Q : AV → List MO → Prop} {X : Prop} (l : List Str) (S : SrcOk a b) (t0 : Nat.blt 0 (l.map PV.str).length = true) (t1 : Nat.blt (l.map PV.str).length 1000 = true) (hd : 3 ≤ d) (q : ∀ s a' b',s ∈ l → SrcOk a' b' → Q (.pv (.str s)) [src a' b']) : CALL g d 692 [.mut 0,.pv (.lst (l.map PV.str))] [src a b] Q X :=
  (c_one H S (by simpa [Nat.blt_eq] using t0) (by simpa [Nat.blt_eq] using t1)).use hd (fun b ν ⟨p,e,hp,⟨a',b',e2,S'⟩⟩ => by
    obtain ⟨s,hs,e3⟩ := List.mem_map.mp hp
    subst e e2 e3
    exact q s a' b' hs S') False.elim
end
theorem CALL.ex {g : GW} {α : Type} {F : α → PV} {M : α → Prop} {d d0 : Nat} {f : Addr} {args : List AV} {μ : List MO} {Q : AV → List MO → Prop} {X : Prop} (h : CALL g d0 f args μ (fun r ν => ∃ x,r = .pv (F x) ∧ M x ∧ Src ν) False) (hd : d0 ≤ d) (q : ∀ x a b,M x → SrcOk a b → Q (.pv (F x)) [src a b]) : CALL g d f args μ Q X :=
  h.use hd (fun b ν ⟨x,e,hx,⟨a',b',e2,S'⟩⟩ => by subst e e2; exact q x a' b' hx S') False.elim
end Mine
end
section
namespace Mine
local macro_rules | `(tactic| trivial) => `(tactic| (unfold textLine; omega))
local macro_rules | `(tactic| trivial) => `(tactic| (refine tl_le ?_; assumption))
noncomputable def calledL : List (Str × Str) := [("s","s"),("Point_1","Point_1"),("\"to\"","to"),("[a b]","a b"),("`x`","x"),("\"q\"\"r\"","q\"r"),("\"savepoint\"","savepoint"),("\"\"",""),("wal","wal")]
noncomputable def settL : List (Str × Str) := [("ON","ON"),("Full","Full"),("delete","delete"),("\"on\"","on")]
noncomputable def intL : List Int := [0,1,4096,2 ^ (63 : Int).toNat - 1,2 ^ (63 : Int).toNat]
noncomputable def gapL : List Str := [""," "]
noncomputable def trL : List Str := [""," TRANSACTION"]
noncomputable def svL : List Str := [""," SAVEPOINT"]
noncomputable def coL : List Str := ["COMMIT","END"]
noncomputable def kindL : List Str := [""," DEFERRED"," IMMEDIATE"," EXCLUSIVE"]
noncomputable def numT (i : Int) : Str := Str.ofString (toString i)
noncomputable def pair (x : Str × Str) : PV := .tup [.str x.1,.str x.2]
noncomputable def w1L : List (Str × PV) := settL.map fun x => (x.1,.str x.2)
noncomputable def w2L : List (Str × PV) := [("'it''s'",.str "it's")]
noncomputable def w3L : List (Str × PV) := intL.flatMap fun i => gapL.map fun s => ("-" ++ s ++ numT i,.int (0 - i))
noncomputable def w4L : List (Str × PV) := intL.map fun i => (numT i,.int i)
noncomputable def worthL : List (Str × PV) := w1L ++ (w2L ++ (w3L ++ w4L))
noncomputable def kindV (k : Str) : PV := cond (k != "") (.str (Txt.lower (Txt.slice k (some 1) none))) (.str "deferred")
noncomputable def beginL : List (Str × PV) := kindL.flatMap fun k => trL.map fun t => ("BEGIN" ++ k ++ t,.tup [.str "begin",kindV k])
noncomputable def forms (t : Str) : List Str := [" = " ++ t,"=" ++ t,"(" ++ t ++ ")"," ( " ++ t ++ " )",""]
noncomputable def formV (f : Str) (v : PV) : PV := cond (f != "") v .none
noncomputable def stL1 : List (Str × Str × PV) := beginL.map fun x => (x.1,"",x.2)
noncomputable def stL2 : List (Str × Str × PV) := coL.flatMap fun c => trL.map fun t => (c ++ t,"",.tup [.str "commit"])
noncomputable def stL3 : List (Str × Str × PV) := trL.map fun t => ("ROLLBACK" ++ t,"",.tup [.str "rollback",.none])
noncomputable def stL4 : List (Str × Str × PV) := [("VACUUM","",.tup [.str "vacuum"])]
noncomputable def stL5 : List (Str × Str × PV) := calledL.flatMap fun c => trL.flatMap fun t => svL.map fun s => ("ROLLBACK" ++ t ++ " TO" ++ s," " ++ c.1,.tup [.str "rollback",.str c.2])
noncomputable def stL6 : List (Str × Str × PV) := calledL.map fun c => ("SAVEPOINT"," " ++ c.1,.tup [.str "savepoint",.str c.2])
noncomputable def stL7 : List (Str × Str × PV) := calledL.flatMap fun c => svL.map fun s => ("RELEASE" ++ s," " ++ c.1,.tup [.str "release",.str c.2])
noncomputable def stL8 : List (Str × Str × PV) := calledL.flatMap fun c => worthL.flatMap fun w => (forms w.1).map fun f => ("PRAGMA"," " ++ c.1 ++ f,.tup [.str "pragma",.str c.2,formV f w.2])
noncomputable def InSt (x : Str × Str × PV) : Prop := x ∈ stL1 ∨ x ∈ stL2 ∨ x ∈ stL3 ∨ x ∈ stL4 ∨ x ∈ stL5 ∨ x ∈ stL6 ∨ x ∈ stL7 ∨ x ∈ stL8
theorem l_called : ∀ x ∈ calledL,x.1.length ≤ 100 := by decide +kernel
theorem l_num : ∀ i ∈ intL,(numT i).length ≤ 100 ∧ i.natAbs.log2 < 1920 := by decide +kernel
theorem l_gap : ∀ i ∈ gapL,i.length ≤ 100 := by decide +kernel
theorem l_tr : ∀ i ∈ trL,i.length ≤ 100 := by decide +kernel
theorem l_sv : ∀ i ∈ svL,i.length ≤ 100 := by decide +kernel
theorem l_co : ∀ i ∈ coL,i.length ≤ 100 := by decide +kernel
theorem l_kind : ∀ i ∈ kindL,i.length ≤ 100 ∧ Builtin.Str.tooLong (Txt.lower (Txt.slice i (some 1) none)).length = false := by decide +kernel
theorem l_worth : ∀ x ∈ worthL.map (·.1),x.length ≤ 100 := by decide +kernel
theorem l_begin : ∀ x ∈ beginL.map (·.1),x.length ≤ 300 := by decide +kernel
theorem in_strs {l : List Str} {p : PV} (h : p ∈ l.map PV.str) : ∃ s,s ∈ l ∧ p = .str s := by
  obtain ⟨s,hs,rfl⟩ := List.mem_map.mp h
  exact ⟨s,hs,rfl⟩
section
variable {g : GW} (H : Facts g)
include H
theorem c_called {a b : Int} (S : SrcOk a b) : CALL g 4 699 [.mut 0] [src a b] (fun r ν => ∃ x,r = .pv (pair x) ∧ x ∈ calledL ∧ Src ν) False :=
  have ok := ok__law_called
  call_intro (fi := fi__law_called) ok H.f__law_called (@Subtype.property _ _ (D__law_called H)) (by
    refine And.intro (Nat.le_of_ble_eq_true rfl) ?_
    refine (c_one H S (by decide) (by decide)).ex (Nat.le_of_ble_eq_true rfl) fun p a' b' hp S' => ?_
    obtain ⟨x,hx,rfl⟩ := List.mem_map.mp (show p ∈ calledL.map pair from hp)
    exact Back.one rfl ⟨_,rfl,hx,⟨a',b',rfl,S'⟩⟩)
theorem c_lbegin {a b : Int} (S : SrcOk a b) : CALL g 4 713 [.mut 0] [src a b] (fun r ν => ∃ x,r = .pv (.tup [.str x.1,x.2]) ∧ x ∈ beginL ∧ Src ν) False :=
  have ok := ok__law_begin
  call_intro (fi := fi__law_begin) ok H.f__law_begin (@Subtype.property _ _ (D__law_begin H)) (by
    refine k_oneS H (kindL) S rfl rfl (Nat.le_of_ble_eq_true rfl) fun k a' b' hk S' => ?_
    obtain ⟨lk,lt⟩ := l_kind k hk
    have e5 : ("BEGIN" : Str).length = 5 := rfl
    refine And.intro (by rw [e5]; unfold textLine; omega) ?_
    refine k_oneS H (trL) S' rfl rfl (Nat.le_of_ble_eq_true rfl) fun t a2 b2 ht S2 => ?_
    have lt' := l_tr t ht
    refine And.intro (by rw [len_app,e5]; unfold textLine; omega) ?_
    have mem : ("BEGIN" ++ k ++ t,PV.tup [.str "begin",kindV k]) ∈ beginL := List.mem_flatMap.mpr ⟨k,hk,List.mem_map.mpr ⟨t,ht,rfl⟩⟩
    refine sel.mk (fun h => ?_) (fun h => ?_)
    · have h : (k != ("" : Str)) = true := h
      unfold kindV at mem
      rw [h] at mem
      refine And.intro (by trivial) (And.intro rfl (And.intro lt (And.intro (Nat.le_of_ble_eq_true rfl) (And.intro (Nat.le_of_ble_eq_true rfl) ?_))))
      exact Back.one rfl ⟨_,rfl,mem,⟨a2,b2,rfl,S2⟩⟩
    · have h : (k != ("" : Str)) = false := h
      unfold kindV at mem
      rw [h] at mem
      refine And.intro (Nat.le_of_ble_eq_true rfl) (And.intro (Nat.le_of_ble_eq_true rfl) ?_)
      exact Back.one rfl ⟨_,rfl,mem,⟨a2,b2,rfl,S2⟩⟩)
theorem c_worth {a b : Int} (S : SrcOk a b) : CALL g 4 706 [.mut 0] [src a b] (fun r ν => ∃ x,r = .pv (.tup [.str x.1,x.2]) ∧ x ∈ worthL ∧ Src ν) False :=
  have ok := ok__law_worth
  call_intro (fi := fi__law_worth) ok H.f__law_worth (@Subtype.property _ _ (D__law_worth H)) (by
    refine k_take H S (by decide) (by decide) (Nat.le_of_ble_eq_true rfl) fun way a' b' S' => ?_
    refine sel.mk (fun _ => ?_) (fun _ => sel.mk (fun _ => ?_) (fun _ => ?_))
    · refine (c_one H S' (by decide) (by decide)).ex (Nat.le_of_ble_eq_true rfl) fun p a2 b2 hp S2 => ?_
      obtain ⟨x,hx,rfl⟩ := List.mem_map.mp (show p ∈ settL.map pair from hp)
      exact Back.one rfl ⟨(x.1,.str x.2),rfl,List.mem_append_left _ (List.mem_map.mpr ⟨x,hx,rfl⟩),⟨a2,b2,rfl,S2⟩⟩
    · exact Back.one rfl ⟨("'it''s'",.str "it's"),rfl,List.mem_append_right _ (List.mem_append_left _ (.head _)),⟨a',b',rfl,S'⟩⟩
    · refine And.intro (by decide) (And.intro (by decide) (And.intro (by decide +kernel) ?_))
      refine And.intro (by decide) (And.intro (by decide) (And.intro (by decide +kernel) ?_))
      refine And.intro (Nat.le_of_ble_eq_true rfl) ?_
      refine (c_one H S' (by decide) (by decide)).ex (Nat.le_of_ble_eq_true rfl) fun p a2 b2 hp S2 => ?_
      obtain ⟨i,hi,rfl⟩ := List.mem_map.mp (show p ∈ intL.map PV.int from hp)
      obtain ⟨ln,lg⟩ := l_num i hi
      refine sel.mk (fun _ => ?_) (fun _ => ?_)
      · refine k_oneS H (gapL) S2 rfl rfl (Nat.le_of_ble_eq_true rfl) fun s a3 b3 hs S3 => ?_
        have ls := l_gap s hs
        have e1 : ("-" : Str).length = 1 := rfl
        refine And.intro (by rw [e1]; unfold textLine; omega) ?_
        refine And.intro lg ?_
        refine And.intro (show ("-" ++ s).length + (numT i).length ≤ textLine by rw [len_app,e1]; unfold textLine; omega) ?_
        refine And.intro (Nat.le_of_ble_eq_true rfl) ?_
        exact Back.one rfl ⟨("-" ++ s ++ numT i,.int (0 - i)),rfl,List.mem_append_right _ (List.mem_append_right _ (List.mem_append_left _ (List.mem_flatMap.mpr ⟨i,hi,List.mem_map.mpr ⟨s,hs,rfl⟩⟩))),⟨a3,b3,rfl,S3⟩⟩
      · refine And.intro lg (And.intro (Nat.le_of_ble_eq_true rfl) ?_)
        exact Back.one rfl ⟨(numT i,.int i),rfl,List.mem_append_right _ (List.mem_append_right _ (List.mem_append_right _ (List.mem_map.mpr ⟨i,hi,rfl⟩))),⟨a2,b2,rfl,S2⟩⟩)
end
end Mine
end
section
namespace Mine
local macro_rules | `(tactic| trivial) => `(tactic| (unfold textLine; omega))
local macro_rules | `(tactic| trivial) => `(tactic| (refine tl_le ?_; assumption))
noncomputable def st3 (x : Str × Str × PV) : PV := .tup [.str x.1,.str x.2.1,x.2.2]
section
variable {g : GW} (H : Facts g)
include H
theorem c_statement {a b : Int} (S : SrcOk a b) : CALL g 6 720 [.mut 0] [src a b] (fun r ν => ∃ x,r = .pv (st3 x) ∧ InSt x ∧ Src ν) False :=
  have ok := ok__law_statement
  have e1 : (" " : Str).length = 1 := rfl
  call_intro (fi := fi__law_statement) ok H.f__law_statement (@Subtype.property _ _ (D__law_statement H)) (by
    refine k_take H S (by decide) (by decide) (Nat.le_of_ble_eq_true rfl) fun way a' b' S' => ?_
    refine sel.mk (fun _ => ?_) (fun _ => sel.mk (fun _ => ?_) (fun _ => sel.mk (fun _ => ?_) (fun _ => sel.mk (fun _ => ?_) (fun _ => ?_))))
    · refine (c_lbegin H S').ex (Nat.le_of_ble_eq_true rfl) fun x a2 b2 hx S2 => ?_
      refine And.intro (Nat.le_of_ble_eq_true rfl) ?_
      exact Back.one rfl ⟨(x.1,"",x.2),rfl,.inl (List.mem_map.mpr ⟨x,hx,rfl⟩),⟨a2,b2,rfl,S2⟩⟩
    · refine k_oneS H (coL) S' rfl rfl (Nat.le_of_ble_eq_true rfl) fun c a2 b2 hc S2 => ?_
      have lc := l_co c hc
      refine k_oneS H (trL) S2 rfl rfl (Nat.le_of_ble_eq_true rfl) fun t a3 b3 ht S3 => ?_
      have lt := l_tr t ht
      refine And.intro (by trivial) (And.intro (Nat.le_of_ble_eq_true rfl) ?_)
      exact Back.one rfl ⟨(c ++ t,"",.tup [.str "commit"]),rfl,.inr (.inl (List.mem_flatMap.mpr ⟨c,hc,List.mem_map.mpr ⟨t,ht,rfl⟩⟩)),⟨a3,b3,rfl,S3⟩⟩
    · refine k_oneS H (trL) S' rfl rfl (Nat.le_of_ble_eq_true rfl) fun t a3 b3 ht S3 => ?_
      have lt := l_tr t ht
      have e8 : ("ROLLBACK" : Str).length = 8 := rfl
      refine And.intro (by rw [e8]; unfold textLine; omega) (And.intro (Nat.le_of_ble_eq_true rfl) ?_)
      exact Back.one rfl ⟨("ROLLBACK" ++ t,"",.tup [.str "rollback",.none]),rfl,.inr (.inr (.inl (List.mem_map.mpr ⟨t,ht,rfl⟩))),⟨a3,b3,rfl,S3⟩⟩
    · refine And.intro (Nat.le_of_ble_eq_true rfl) ?_
      exact Back.one rfl ⟨("VACUUM","",.tup [.str "vacuum"]),rfl,.inr (.inr (.inr (.inl (.head _)))),⟨a',b',rfl,S'⟩⟩
    refine (c_called H S').ex (Nat.le_of_ble_eq_true rfl) fun c a2 b2 hc S2 => ?_
    have lc := l_called c hc
    refine sel.mk (fun _ => ?_) (fun _ => sel.mk (fun _ => ?_) (fun _ => sel.mk (fun _ => ?_) (fun _ => ?_)))
    · refine k_oneS H (trL) S2 rfl rfl (Nat.le_of_ble_eq_true rfl) fun t a3 b3 ht S3 => ?_
      have lt := l_tr t ht
      have e8 : ("ROLLBACK" : Str).length = 8 := rfl
      have e3 : (" TO" : Str).length = 3 := rfl
      refine And.intro (by rw [e8]; unfold textLine; omega) (And.intro (by rw [len_app,e8,e3]; unfold textLine; omega) ?_)
      refine k_oneS H (svL) S3 rfl rfl (Nat.le_of_ble_eq_true rfl) fun s a4 b4 hs S4 => ?_
      have ls := l_sv s hs
      refine And.intro (by rw [len_app,len_app,e8,e3]; unfold textLine; omega) ?_
      refine And.intro (by rw [e1]; unfold textLine; omega) ?_
      refine And.intro (Nat.le_of_ble_eq_true rfl) (And.intro (Nat.le_of_ble_eq_true rfl) ?_)
      exact Back.one rfl ⟨("ROLLBACK" ++ t ++ " TO" ++ s," " ++ c.1,.tup [.str "rollback",.str c.2]),rfl,.inr (.inr (.inr (.inr (.inl (List.mem_flatMap.mpr ⟨c,hc,List.mem_flatMap.mpr ⟨t,ht,List.mem_map.mpr ⟨s,hs,rfl⟩⟩⟩))))),⟨a4,b4,rfl,S4⟩⟩
    · refine And.intro (by rw [e1]; unfold textLine; omega) ?_
      refine And.intro (Nat.le_of_ble_eq_true rfl) (And.intro (Nat.le_of_ble_eq_true rfl) ?_)
      exact Back.one rfl ⟨("SAVEPOINT"," " ++ c.1,.tup [.str "savepoint",.str c.2]),rfl,.inr (.inr (.inr (.inr (.inr (.inl (List.mem_map.mpr ⟨c,hc,rfl⟩)))))),⟨a2,b2,rfl,S2⟩⟩
    · refine k_oneS H (svL) S2 rfl rfl (Nat.le_of_ble_eq_true rfl) fun s a4 b4 hs S4 => ?_
      have ls := l_sv s hs
      have e7 : ("RELEASE" : Str).length = 7 := rfl
      refine And.intro (by rw [e7]; unfold textLine; omega) ?_
      refine And.intro (by rw [e1]; unfold textLine; omega) ?_
      refine And.intro (Nat.le_of_ble_eq_true rfl) (And.intro (Nat.le_of_ble_eq_true rfl) ?_)
      exact Back.one rfl ⟨("RELEASE" ++ s," " ++ c.1,.tup [.str "release",.str c.2]),rfl,.inr (.inr (.inr (.inr (.inr (.inr (.inl (List.mem_flatMap.mpr ⟨c,hc,List.mem_map.mpr ⟨s,hs,rfl⟩⟩))))))),⟨a4,b4,rfl,S4⟩⟩
    · refine (c_worth H S2).ex (Nat.le_of_ble_eq_true rfl) fun w a3 b3 hw S3 => ?_
      have lw := l_worth w.1 (List.mem_map.mpr ⟨w,hw,rfl⟩)
      have e3 : (" = " : Str).length = 3 := rfl
      have e4 : ("=" : Str).length = 1 := rfl
      have e5 : ("(" : Str).length = 1 := rfl
      have e6 : (")" : Str).length = 1 := rfl
      have e7 : (" ( " : Str).length = 3 := rfl
      have e8 : (" )" : Str).length = 2 := rfl
      refine And.intro (by rw [e3]; unfold textLine; omega) (And.intro (by rw [e4]; unfold textLine; omega) (And.intro (by rw [e5]; unfold textLine; omega) (And.intro (by rw [len_app,e5,e6]; unfold textLine; omega) (And.intro (by rw [e7]; unfold textLine; omega) (And.intro (by rw [len_app,e7,e8]; unfold textLine; omega) ?_)))))
      refine And.intro (Nat.le_of_ble_eq_true rfl) ?_
      refine k_oneS H (forms w.1) S3 rfl rfl (Nat.le_of_ble_eq_true rfl) fun f a4 b4 hf S4 => ?_
      have lf : f.length ≤ 200 := by
        unfold forms at hf
        simp only [List.mem_cons,List.not_mem_nil,or_false] at hf
        rcases hf with rfl | rfl | rfl | rfl | rfl
        · rw [len_app,e3]; omega
        · rw [len_app,e4]; omega
        · rw [len_app,len_app,e5,e6]; omega
        · rw [len_app,len_app,e7,e8]; omega
        · exact Nat.zero_le _
      have mem : (("PRAGMA"," " ++ c.1 ++ f,PV.tup [.str "pragma",.str c.2,formV f w.2]) : Str × Str × PV) ∈ stL8 := List.mem_flatMap.mpr ⟨c,hc,List.mem_flatMap.mpr ⟨w,hw,List.mem_map.mpr ⟨f,hf,rfl⟩⟩⟩
      refine And.intro (by rw [e1]; unfold textLine; omega) (And.intro (by rw [len_app,e1]; unfold textLine; omega) ?_)
      refine sel.mk (fun h => ?_) (fun h => ?_)
      all_goals
        have h : (f != ("" : Str)) = _ := h
        unfold formV at mem
        rw [h] at mem
        refine And.intro (Nat.le_of_ble_eq_true rfl) (And.intro (Nat.le_of_ble_eq_true rfl) ?_)
        exact Back.one rfl ⟨_,rfl,.inr (.inr (.inr (.inr (.inr (.inr (.inr mem)))))),⟨a4,b4,rfl,S4⟩⟩)
end
end Mine
end
section
namespace Mine
noncomputable def overS (ws : List Wd) : PRes → Option PV
  | .val r k => cond (Nat.ble k 999999) ((ws[k]?).bind fun w => some (cond (w.k == "end") r .none)) none
  | .err => some .none
  | .bad => none
noncomputable def readS (t : Str) : Option PV := cond (Nat.ble t.length 100000) ((scanS t 1000 0 []).bind fun ws => cond (Nat.ble ws.length 999999) (overS ws (pTrans ws 0)) none) none
structure ReadOk (t : Str) (p : PV) : Prop where
  ex : ∃ ws,t.length ≤ 100000 ∧ scanS t 1000 0 [] = some ws ∧ ws.length < 1000000 ∧ overS ws (pTrans ws 0) = some p
theorem readOk_of {t : Str} {p : PV} (h : readS t = some p) : ReadOk t p := by
  unfold readS at h
  cases h1 : Nat.ble t.length 100000 with
  | false => rw [h1] at h; cases h
  | true =>
    rw [h1,cond_true] at h
    obtain ⟨ws,hs,h⟩ := Option.bind_eq_some_iff.mp h
    cases h2 : Nat.ble ws.length 999999 with
    | false => rw [h2] at h; cases h
    | true =>
      rw [h2,cond_true] at h
      exact ⟨ws,Nat.le_of_ble_eq_true h1,hs,Nat.lt_succ_of_le (Nat.le_of_ble_eq_true h2),h⟩
theorem Body.mono {g : GW} {fi : FI} {body : List Stmt} {Q Q' : PV → Prop} {d : Nat} {args : List AV} (h : Body g fi body Q d args) (hq : ∀ p,Q p → Q' p) : Body g fi body Q' d args :=
  ⟨fun A₁ outer base g₁ L' m im fz s hD K KD F LRR D tk => wpAny_mono (h.go A₁ outer base g₁ L' m im fz s hD K KD F LRR D tk) (fun fl s' ⟨v,p,g',im',h',tk',m',a1,a2,a3,a4,a5,a6,a7,a8,a9⟩ => ⟨v,p,g',im',h',tk',m',a1,a2,a3,a4,a5,a6,a7,a8,hq p a9⟩) fun _ _ x => x⟩
section
variable {g : GW} (H : Facts g)
include H
theorem b_read {t : Str} {p : PV} (R : ReadOk t p) : Body g fi__law_read (bodyOf (topS 54)) (fun r => r = p) 9 [.pv (.str t)] := by
  obtain ⟨ws,ht,hs,hl,ho⟩ := R
  have ok := ok__law_read
  have hb : pTrans ws 0 ≠ .bad := fun z => by rw [z] at ho; cases ho
  refine read_body (fi := fi__law_read) (X := pTrans ws 0 = .err) ok rfl (@sv_cons _ _ _ _ _ _ (@sv_asg _ _ _ _ _ _ _ 1 ok rfl rfl (@eC _ _ _ _ _ _ _ _ ok H.g_WordStream H.k_WordStream (@lv_cons _ _ _ _ _ _ _ (@eL _ _ _ _ ok 0 (by rfl) (by rfl) (by decide)) (@lv_nil _ _ _) (by intro _; rfl)) (by rfl) (by decide) (by intro _ ; rfl) (by intro _ _ _ h ; cases h <;> rfl)) (by intro _ ; rfl)) (@sv_cons _ _ _ _ _ _ (@sv_asg _ _ _ _ _ _ _ 2 ok rfl rfl (@eM _ _ _ _ _ _ _ _ _ 22 ok (@eC _ _ _ _ _ _ _ _ ok H.g_TransactionReader H.k_TransactionReader (@lv_cons _ _ _ _ _ _ _ (@eL _ _ _ _ ok 1 (by rfl) (by rfl) (by decide)) (@lv_nil _ _ _) (by intro _; rfl)) (by rfl) (by decide) (by intro _ ; rfl) (by intro _ _ _ h ; cases h <;> rfl)) (@lv_nil _ _ _) _ (by rfl) (by intro _ ; rfl) (by intro _ ; rfl) (by intro _ _ _ h ; cases h <;> rfl)) (by intro _ ; rfl)) (@sv_nil _ _))) (@sv_cons _ _ _ _ _ _ (@sv_ret _ _ _ _ _ (@ev_ifexp _ _ _ _ _ _ _ _ _ (@bv_plain _ _ _ _ (@eM _ _ _ _ _ _ _ _ _ 16 ok (@eL _ _ _ _ ok 1 (by rfl) (by rfl) (by decide)) (@lv_nil _ _ _) _ (by rfl) (by intro _ ; rfl) (by intro _ ; rfl) (by intro _ _ _ h ; cases h <;> rfl)) (by intro _ _ ; rfl)) (@eL _ _ _ _ ok 2 (by rfl) (by rfl) (by decide)) (@ev_none _ _ _ _))) (@sv_nil _ _)) H.g_ParseError H.kts rfl (by decide) ?_ (fun z => by rw [z] at ho; cases ho; rfl)
  refine (c_WordStream H ht hs).eqF (Nat.le_of_ble_eq_true rfl) ?_
  refine (c_Reader H ht (ws := ws) (k := 0)).eqF (Nat.le_of_ble_eq_true rfl) ?_
  refine MI rfl H.m_TransactionReader_transaction ?_
  refine (c_transaction H hl hb).use (Nat.le_of_ble_eq_true rfl) (fun b ν h => ?_) id
  obtain ⟨r,k,hr,rfl,rfl⟩ := h
  rw [hr] at ho
  have ho : cond (Nat.ble k 999999) ((ws[k]?).bind fun w => some (cond (w.k == "end") r .none)) none = some p := ho
  cases hk : Nat.ble k 999999 with
  | false => rw [hk] at ho; cases ho
  | true =>
    rw [hk,cond_true] at ho
    obtain ⟨w,hw,ho⟩ := Option.bind_eq_some_iff.mp ho
    cases ho
    have hk' : k < 1000000 := Nat.lt_succ_of_le (Nat.le_of_ble_eq_true hk)
    refine MI rfl H.m_WordStream_is_over ?_
    refine (c_is_over H (t := t) hw hk').eqF (Nat.le_of_ble_eq_true rfl) ?_
    refine sel.mk (fun h => ⟨r,rfl, ?_⟩) (fun h => ⟨.none,rfl, ?_⟩)
    · rw [show (w.k == ("end" : Str)) = true from h]; rfl
    · rw [show (w.k == ("end" : Str)) = false from h]; rfl
theorem k_read {t : Str} {p : PV} (R : ReadOk t p) : CALLS0 g fi_law 10 727 [.str t] (fun r => r = p) :=
  callS0_of (fi := fi__law_read) rfl (Nat.zero_lt_succ _) ok__law_read H.f__law_read (b_read H R)
theorem b_refused {t : Str} (R : ReadOk t .none) : Body g fi__law_is_refused (bodyOf (topS 55)) (fun r => r = .bool true) 10 [.pv (.str t)] := by
  have B : Body g fi__law_is_refused (bodyOf (topS 55)) (fun r => ∃ p b,p = PV.none ∧ isNoneP p = some b ∧ r = .bool b) 10 [.pv (.str t)] :=
    refused_body (fi := fi__law_is_refused) (fr := fi__law_read) (Qr := fun r => r = PV.none) ok__law_is_refused ok__law_read H.f__law_read (b_read H R) rfl rfl (by decide) H.g__law_read H.k__law_read rfl (by decide) (fun p hp => by subst hp; exact ⟨true,rfl⟩)
  exact B.mono fun r ⟨p,b,e1,e2,e3⟩ => by subst e1; cases e2; exact e3
theorem k_refused {t : Str} (R : ReadOk t .none) : CALLS0 g fi_law 11 734 [.str t] (fun r => r = .bool true) :=
  callS0_of (fi := fi__law_is_refused) rfl (Nat.zero_lt_succ _) ok__law_is_refused H.f__law_is_refused (b_refused H R)
end
end Mine
end
section
namespace Mine
local macro_rules | `(tactic| trivial) => `(tactic| (unfold textLine; omega))
local macro_rules | `(tactic| trivial) => `(tactic| (refine tl_le ?_; assumption))
structure Good (t : Str) (row : PV) : Prop where
  ex : ∃ (nd : Nd) (w : Str) (nd2 : Nd),ReadOk t nd.pv ∧ cmpD true (.pv nd.row) (.pv row) = some false ∧ nd.text = some w ∧ ReadOk w nd2.pv ∧ cmpD true (.pv nd2.row) (.pv row) = some false ∧ nd2.text = some w ∧ ReadOk (t ++ " 7") .none ∧ ReadOk (w ++ " ;") .none ∧ w.length ≤ 5000
  len : t.length ≤ 5000
structure GoodX (x : Str × Str × PV) : Prop where
  low : Builtin.Str.tooLong (Txt.lower x.1).length = false
  l1 : (Txt.lower x.1).length ≤ 5000
  l2 : x.1.length ≤ 5000
  l3 : x.2.1.length ≤ 5000
  g1 : Good (Txt.lower x.1 ++ x.2.1) x.2.2
  g2 : Good (x.1 ++ x.2.1) x.2.2
noncomputable def wrongL : List Str := ["","BEGIN DEFERRED IMMEDIATE","SAVEPOINT","RELEASE","RELEASE SAVEPOINT","ROLLBACK TO","PRAGMA","PRAGMA a =","PRAGMA a (1","PRAGMA a = - b","COMMIT COMMIT","SELECT 1","SAVEPOINT 'a'","PRAGMA a = (1)","TO a"]
theorem CALLS0.more {g : GW} {cf : FI} {d d' : Nat} {f : Addr} {args : List PV} {Qr : PV → Prop} (h : CALLS0 g cf d f args Qr) (hd : d ≤ d') : CALLS0 g cf d' f args Qr :=
  fun A base h₀ L m μ cs im fz s vs Qc Ec hD => h A base h₀ L m μ cs im fz s vs Qc Ec (hD.less hd)
section
variable {g : GW} (H : Facts g)
include H
theorem nd_facts (nd : Nd) : ∃ C fs f,nd.pv = .inst C fs ∧ MethOk g C 3 f ∧ CALLP g 1 f [.inst C fs] (fun r => r = nd.row) False := by
  cases nd with
  | begin k => exact ⟨_,_,_,rfl,H.m_Begin_row,c_row_Begin H⟩
  | commit => exact ⟨_,_,_,rfl,H.m_Commit_row,c_row_Commit H⟩
  | rollback n => exact ⟨_,_,_,rfl,H.m_Rollback_row,c_row_Rollback H⟩
  | savepoint n => exact ⟨_,_,_,rfl,H.m_Savepoint_row,c_row_Savepoint H⟩
  | release n => exact ⟨_,_,_,rfl,H.m_Release_row,c_row_Release H⟩
  | pragma n v => exact ⟨_,_,_,rfl,H.m_Pragma_row,c_row_Pragma H⟩
  | vacuum => exact ⟨_,_,_,rfl,H.m_Vacuum_row,c_row_Vacuum H⟩
set_option maxHeartbeats 2000000 in
theorem law_ts (gx : ∀ x,InSt x → GoodX x) (gw : ∀ t ∈ wrongL,ReadOk t .none) :
    TS g fi_law 12 False (locs0 fi_law [.pv .scr]) [] (fun L => execs (bodyOf (topS 56)) (fi_law.env L)) (fun _ _ => False) (fun b _ => b = .pv (.bool true)) := by
  have ok := ok_law
  have hns := H.ns
  refine ((@Subtype.property _ _ (D_law H)) : SVs g fi_law (bodyOf (topS 56)) _) 12 False _ _ _ _ ?_
  refine And.intro (by trivial) ?_
  refine And.intro (by repeat' split <;> omega) (And.intro (by repeat' split <;> omega) ?_)
  refine ⟨fun i loc μ => μ = [] ∧ ∃ o1 o2 o3 o4 o5 o6 o7 o8 o9 o10 o11 o12 o13 o14 o15 o16 o17 o18 o19 o20 : Option AV,loc = [some (.pv .scr),o1,o2,o3,o4,o5,o6,o7,o8,o9,o10,o11,o12,o13,o14,o15,o16,o17,o18,o19,o20],⟨rfl,_,_,_,_,_,_,_,_,_,_,_,_,_,_,_,_,_,_,_,_,rfl⟩, ?_, ?_⟩
  · rintro i loc μ hi ⟨rfl,o1,o2,o3,o4,o5,o6,o7,o8,o9,o10,o11,o12,o13,o14,o15,o16,o17,o18,o19,o20,rfl⟩
    have hi5 : i < 5 := by
      refine Nat.lt_of_lt_of_le hi ?_
      repeat' split
      all_goals omega
    refine And.intro rfl ?_
    refine (c_pool H hi5).use (Nat.le_of_ble_eq_true rfl) (fun b ν h => ?_) False.elim
    obtain ⟨rfl,⟨a,b,rfl,S⟩⟩ := h
    refine (c_statement H S).ex (Nat.le_of_ble_eq_true rfl) fun x a2 b2 hx S2 => ?_
    obtain ⟨w,rest,row⟩ := x
    have G := gx _ hx
    obtain ⟨g0,l1,l2,l3,g1,g2⟩ := G
    dsimp only at g0 l1 l2 l3 g1 g2
    refine k_take H S2 (by decide) (by decide) (Nat.le_of_ble_eq_true rfl) fun i2 a3 b3 S3 => ?_
    have tail : ∀ t,Good t row → (D_law_3 H).1 12 False [some (.pv .scr),some (.pv (.int (i : Nat))),some (.mut 0),some (.pv (.str w)),some (.pv (.str rest)),some (.pv row),some (.pv (.str t)),o7,o8,o9,o10,o11,o12,o13,o14,o15,o16,o17,o18,o19,o20] [src a3 b3]
        (fun loc' _ => ([] : List MO) = [] ∧ ∃ o1 o2 o3 o4 o5 o6 o7 o8 o9 o10 o11 o12 o13 o14 o15 o16 o17 o18 o19 o20 : Option AV,loc'.map dropM = [some (.pv .scr),o1,o2,o3,o4,o5,o6,o7,o8,o9,o10,o11,o12,o13,o14,o15,o16,o17,o18,o19,o20]) (fun b _ => b = .pv (.bool true)) := fun t gg => by
      obtain ⟨⟨nd,w1,nd2,r1,e1,t1,r2,e2,t2,r3,r4,hw⟩,hlen⟩ := gg
      have hne : (w1 != w1) = false := by simp
      have c7 : (" 7" : Str).length = 2 := rfl
      have c8 : (" ;" : Str).length = 2 := rfl
      obtain ⟨C,fs,f,e,hm,hrow⟩ := nd_facts H nd
      obtain ⟨C2,fs2,f2,e',hm2,hrow2⟩ := nd_facts H nd2
      have cw := c_write H t1
      have cw2 := c_write H t2
      rw [e] at r1 cw
      rw [e'] at r2 cw2
      refine ⟨[.str t],fun r => r = .inst C fs,rfl,(k_read H r1).more (Nat.le_of_ble_eq_true rfl),fun p hp => ?_⟩
      subst hp
      refine sel.ff ?_
      refine MI rfl hm ?_
      refine hrow.eqp rfl (Nat.le_of_ble_eq_true rfl) ?_
      show (match cmpD true (.pv nd.row) (.pv row) with | some c => _ | none => False)
      rw [e1]
      refine sel.ff (sel.ff ?_)
      refine cw.eqp rfl (Nat.le_of_ble_eq_true rfl) ?_
      refine ⟨[.str w1],fun r => r = .inst C2 fs2,rfl,(k_read H r2).more (Nat.le_of_ble_eq_true rfl),fun p hp => ?_⟩
      subst hp
      refine sel.ff ?_
      refine MI rfl hm2 ?_
      refine hrow2.eqp rfl (Nat.le_of_ble_eq_true rfl) ?_
      show (match cmpD true (.pv nd2.row) (.pv row) with | some c => _ | none => False)
      rw [e2]
      refine sel.ff ?_
      refine cw2.eqp rfl (Nat.le_of_ble_eq_true rfl) ?_
      refine sel.mk (fun h => by have h : (w1 != w1) = true := h; rw [hne] at h; cases h) (fun _ => sel.ff ?_)
      refine And.intro (show t.length + (" 7" : Str).length ≤ textLine by rw [c7]; unfold textLine; omega) ?_
      refine ⟨[.str (t ++ " 7")],fun r => r = .bool true,rfl,(k_refused H r3).more (Nat.le_of_ble_eq_true rfl),fun p hp => ?_⟩
      subst hp
      refine sel.ff ?_
      refine And.intro (by rw [c8]; unfold textLine; omega) ?_
      refine ⟨[.str (w1 ++ " ;")],fun r => r = .bool true,rfl,(k_refused H r4).more (Nat.le_of_ble_eq_true rfl),fun p hp => ?_⟩
      subst hp
      refine sel.ff (sel.ff ?_)
      exact ⟨rfl,_,_,_,_,_,_,_,_,_,_,_,_,_,_,_,_,_,_,_,_,rfl⟩
    exact sel.mk (fun _ => And.intro rfl (And.intro g0 (And.intro (show (Txt.lower w).length + rest.length ≤ textLine from Nat.le_trans (Nat.add_le_add l1 l3) (by decide)) (tail _ g1)))) (fun _ => And.intro (show w.length + rest.length ≤ textLine from Nat.le_trans (Nat.add_le_add l2 l3) (by decide)) (tail _ g2))
  · rintro loc μ ⟨rfl,o1,o2,o3,o4,o5,o6,o7,o8,o9,o10,o11,o12,o13,o14,o15,o16,o17,o18,o19,o20,rfl⟩
    refine ⟨Nat.le_of_ble_eq_true rfl,fun p hp => ?_, ?_⟩
    · obtain ⟨t,ht,rfl⟩ := in_strs (l := wrongL) hp
      exact (k_refused H (gw t ht)).more (Nat.le_of_ble_eq_true rfl)
    · refine And.intro (Nat.le_of_ble_eq_true rfl) ?_
      show (match cmpD false (.pv (.lst [])) (.pv (.lst [])) with | some c => _ | none => False)
      rw [show cmpD false (.pv (.lst [])) (.pv (.lst [])) = some true by decide +kernel]
      rfl
end
end Mine
end
section
namespace Mine
noncomputable def S (l : List Nat) : Str := ⟨⟨l⟩⟩
noncomputable def hd (r : List Nat) : Nat := r.headD 0
theorem hd_drop {l : List Nat} {q : Nat} : hd (l.drop q) = l.getD q 0 := by
  unfold hd
  rw [List.headD_eq_head?_getD,List.head?_drop,List.getD_eq_getElem?_getD]
theorem drop_hd {l : List Nat} {q : Nat} (h : q < l.length) : l.drop q = hd (l.drop q) :: l.drop (q + 1) := by
  rw [hd_drop,List.getD_eq_getElem?_getD,List.getElem?_eq_getElem h]
  exact List.drop_eq_getElem_cons h
theorem item_S {l : List Nat} {q : Nat} (h : q < l.length) : Txt.item (S l) (q : Nat) = S [hd (l.drop q)] := by
  rw [item_meets ⟨Int.natCast_nonneg _,Int.ofNat_lt.mpr h⟩,hd_drop]
  show (⟨#[(⟨l⟩ : Array Nat).getD ((q : Nat) : Int).toNat 0]⟩ : Str) = _
  rw [Int.toNat_natCast]
  unfold S
  congr 2
  rw [Array.getD_eq_getD_getElem?,List.getD_eq_getElem?_getD]
  simp
theorem in_S (c : Nat) (X : Str) : inStr (S [c]) X = decide (c ∈ X.cps.toList) := StrLaws.found_one X c
noncomputable def inM (m c : Nat) : Bool := Nat.testBit m c
theorem mask_eq {X : Str} {m : Nat} (h : (List.range 128).all (fun c => decide (c ∈ X.cps.toList) == inM m c) = true) (hL : X.cps.toList.all (Nat.blt · 128) = true) (hm : m < 2 ^ 128) (c : Nat) : inStr (S [c]) X = inM m c := by
  rw [in_S]
  by_cases hc : c < 128
  · exact eq_of_beq (List.all_eq_true.mp h c (List.mem_range.mpr hc))
  · have h1 : inM m c = false := Nat.testBit_lt_two_pow (Nat.lt_of_lt_of_le hm (Nat.pow_le_pow_right (by omega) (by omega)))
    rw [h1,decide_eq_false_iff_not]
    intro hmem
    have := List.all_eq_true.mp hL c hmem
    have : c < 128 := by simpa [Nat.blt_eq] using this
    exact hc this
theorem slice_S {l : List Nat} {a b : Nat} (h : a ≤ b) (hb : b ≤ l.length) : Txt.slice (S l) (some (a : Nat)) (some (b : Nat)) = S ((l.drop a).take (b - a)) := by
  have e := eq_of_beq (slice_closes (x := S l) (i := (a : Nat)) (j := (b : Nat)) ⟨Int.natCast_nonneg _,Int.ofNat_le.mpr h,Int.ofNat_le.mpr hb⟩)
  rw [e]
  show (⟨((l.drop ((a : Nat) : Int).toNat).take ((b : Int) - (a : Int)).toNat).toArray⟩ : Str) = _
  rw [Int.toNat_natCast,Int.toNat_sub]
  rfl
theorem slice_clamp {x : Str} {a b : Nat} : Txt.slice x (some (a : Nat)) (some (b : Nat)) = Txt.slice x (some (a : Nat)) (some ((min b x.length : Nat) : Int)) := by
  unfold Txt.slice Builtin.Str.strSliceIndices
  have e : min ((b : Nat) : Int) ((x.length : Nat) : Int) = min (((min b x.length : Nat)) : Int) ((x.length : Nat) : Int) := by
    rcases Nat.le_total b x.length with h | h
    · rw [Nat.min_eq_left h]
    · rw [Nat.min_eq_right h,Int.min_eq_right (Int.ofNat_le.mpr h),Int.min_self]
  have h1 : ¬ ((b : Nat) : Int) < 0 := Int.not_lt.mpr (Int.natCast_nonneg _)
  have h2 : ¬ (((min b x.length : Nat)) : Int) < 0 := Int.not_lt.mpr (Int.natCast_nonneg _)
  simp only [h1,h2,if_false,show (1 : Int) > 0 by decide,if_true,e]
theorem slice_any {l : List Nat} {a b : Nat} (h : a ≤ b) (ha : a ≤ l.length) : Txt.slice (S l) (some (a : Nat)) (some (b : Nat)) = S ((l.drop a).take (b - a)) := by
  rw [slice_clamp]
  show Txt.slice (S l) (some (a : Nat)) (some ((min b l.length : Nat) : Int)) = _
  rw [slice_S (Nat.le_min.mpr ⟨h,ha⟩) (Nat.min_le_right _ _)]
  rcases Nat.le_total b l.length with hb | hb
  · rw [Nat.min_eq_left hb]
  · rw [Nat.min_eq_right hb,List.take_of_length_le (by rw [List.length_drop]; exact Nat.le_refl _),List.take_of_length_le (by rw [List.length_drop]; exact Nat.sub_le_sub_right hb a)]
theorem slice_off {l : List Nat} {q k : Nat} (hq : q ≤ l.length) : Txt.slice (S l) (some (q : Nat)) (some ((q + k : Nat) : Int)) = S ((l.drop q).take k) := by
  rw [slice_any (Nat.le_add_right q k) hq,Nat.add_sub_cancel_left]
noncomputable def cnt (p : Nat → Bool) : List Nat → Nat
  | [] => 0
  | c :: r => cond (p c) (cnt p r + 1) 0
theorem run_S {l : List Nat} {ok : Str → Bool} {p : Nat → Bool} (hp : ∀ c,ok (S [c]) = p c) : ∀ (f e : Nat),e ≤ l.length → l.length ≤ e + f → runS (S l) ok f e = e + cnt p (l.drop e)
  | 0,e,h1,h2 => by
    have : e = l.length := Nat.le_antisymm h1 h2
    subst this
    rw [List.drop_length]; rfl
  | f + 1,e,h1,h2 => by
    unfold runS
    by_cases he : e < l.length
    · rw [item_S he,hp,show decide (e < (S l).length) = true from decide_eq_true he,Bool.true_and]
      rw [drop_hd he]
      show (match p (hd (l.drop e)) with | true => _ | false => _) = e + cond (p (hd (l.drop e))) _ _
      cases p (hd (l.drop e)) with
      | true =>
        show runS (S l) ok f (e + 1) = _
        rw [run_S hp f (e + 1) (by omega) (by omega)]
        show _ = e + (cnt p (l.drop (e + 1)) + 1)
        omega
      | false => rfl
    · have : e = l.length := by omega
      subst this
      rw [show decide (l.length < (S l).length) = false from decide_eq_false he,List.drop_length]; rfl
noncomputable def mLET:Nat:=10633823849912963253511222494305976320
noncomputable def mNAME:Nat:=10633823849912963253799171464200454144
noncomputable def mFIG:Nat:=287948901175001088
noncomputable def mBLANK:Nat:=4294981120
noncomputable def mQUO:Nat:=81704042592835098710277881856
noncomputable def mONE:Nat:=106338239662793269840951756894760861696
theorem in_LET (c : Nat) : inStr (S [c]) sLETTERS = inM mLET c := mask_eq (by decide +kernel) (by decide +kernel) (by decide +kernel) c
theorem in_NAME (c : Nat) : inStr (S [c]) sNAME = inM mNAME c := mask_eq (by decide +kernel) (by decide +kernel) (by decide +kernel) c
theorem in_FIG (c : Nat) : inStr (S [c]) sFIG = inM mFIG c := mask_eq (by decide +kernel) (by decide +kernel) (by decide +kernel) c
theorem in_BLANK (c : Nat) : inStr (S [c]) " \t\n\r\x0c" = inM mBLANK c := mask_eq (by decide +kernel) (by decide +kernel) (by decide +kernel) c
theorem in_QUO (c : Nat) : inStr (S [c]) "'\"`[" = inM mQUO c := mask_eq (by decide +kernel) (by decide +kernel) (by decide +kernel) c
theorem in_ONE (c : Nat) : inStr (S [c]) "(),.;+-*/%=<>&|~" = inM mONE c := mask_eq (by decide +kernel) (by decide +kernel) (by decide +kernel) c
theorem in_xX (c : Nat) : inStr (S [c]) "xX" = inM 1329227996094400882725152129005125632 c := mask_eq (by decide +kernel) (by decide +kernel) (by decide +kernel) c
noncomputable def begM (c : Nat) : Bool := inM mLET c || Nat.blt 127 c
noncomputable def onM (c : Nat) : Bool := inM mNAME c || Nat.blt 127 c
theorem ord_S (c : Nat) : decide (127 < ordS (S [c])) = Nat.blt 127 c := by
  show decide ((127 : Int) < ((c : Nat) : Int)) = Nat.blt 127 c
  rw [Bool.eq_iff_iff,decide_eq_true_eq,Nat.blt_eq]
  omega
theorem beg_S (c : Nat) : begS (S [c]) = begM c := by unfold begS begM; rw [in_LET,ord_S]
theorem on_S (c : Nat) : onS (S [c]) = onM c := by unfold onS onM; rw [in_NAME,ord_S]
end Mine
end
section
namespace Mine
theorem S_inj {a b : List Nat} (h : S a = S b) : a = b := by cases h; rfl
theorem S_beq (a b : List Nat) : (S a == S b) = (a == b) := by
  rw [Bool.eq_iff_iff,beq_iff_eq,beq_iff_eq]
  exact ⟨S_inj,fun h => by rw [h]⟩
theorem one_beq {r : List Nat} {c : Nat} (hc : c ≠ 0) : (S (r.take 1) == S [c]) = Nat.beq (hd r) c := by
  rw [S_beq]
  cases r with
  | nil =>
    show (([] : List Nat) == [c]) = Nat.beq 0 c
    rw [show Nat.beq 0 c = false from by
      cases h : Nat.beq 0 c with
      | false => rfl
      | true => exact absurd (Nat.eq_of_beq_eq_true h).symm hc]
    rfl
  | cons x r =>
    show ([x] == [c]) = Nat.beq x c
    rw [Bool.eq_iff_iff,beq_iff_eq,Nat.beq_eq]
    simp
noncomputable def bareF (r : List Nat) : Option (List Nat × Nat) :=
  cond (inM 1329227996094400882725152129005125632 (hd r) && Nat.beq (hd r.tail) 39) none
    (cond ((r.take (cnt onM r.tail + 1)).all (Nat.blt · 128)) (some (r.take (cnt onM r.tail + 1),cnt onM r.tail + 1)) none)
theorem ascii_S {w : List Nat} (h : w.all (Nat.blt · 128) = true) : Txt.isascii (S w) = true := by
  show (⟨w⟩ : Array Nat).all (· < 128) = true
  rw [← Array.all_toList]
  refine List.all_eq_true.mpr fun c hc => ?_
  have := List.all_eq_true.mp h c hc
  simpa [Nat.blt_eq] using this
theorem all_lt {w : List Nat} (h : w.all (Nat.blt · 128) = true) : ∀ c ∈ (S w).cps.toList,c < 128 := fun c hc => by
  have := List.all_eq_true.mp h c hc
  simpa [Nat.blt_eq] using this
theorem upper_S {w : List Nat} (h : w.all (Nat.blt · 128) = true) : Txt.upper (S w) = S (w.map up1) := by
  rw [upper_ascii (all_lt h)]
  unfold S
  simp
theorem lower_S {w : List Nat} (h : w.all (Nat.blt · 128) = true) : Txt.lower (S w) = S (w.map lo1) := by
  rw [lower_ascii (all_lt h)]
  unfold S
  simp
theorem short_S {w : List Nat} (h : w.length ≤ 100000) : Builtin.Str.tooLong (S w).length = false := by
  show Builtin.Str.tooLong w.length = false
  unfold Builtin.Str.tooLong
  rw [decide_eq_false_iff_not,sizeLine_nat]
  omega
theorem cnt_le (p : Nat → Bool) : ∀ r : List Nat,cnt p r ≤ r.length
  | [] => Nat.le_refl _
  | c :: r => by
    unfold cnt
    cases p c with
    | true => exact Nat.succ_le_succ (cnt_le p r)
    | false => exact Nat.zero_le _
theorem run_S' {l : List Nat} {ok : Str → Bool} {p : Nat → Bool} (hp : ∀ c,ok (S [c]) = p c) {e : Nat} (h : e ≤ l.length) : runS (S l) ok (l.length - e) e = e + cnt p (l.drop e) :=
  run_S hp _ _ h (Nat.le_of_eq (Nat.add_sub_of_le h).symm)
theorem add_one_add (q c : Nat) : q + 1 + c = q + (c + 1) := by rw [Nat.add_assoc,Nat.add_comm 1]
theorem e_bare {l : List Nat} {q : Nat} (h : q < l.length) : Txt.slice (S l) (some ((q : Int) + 1)) (some ((q : Int) + 1 + 1)) = S ((l.drop (q + 1)).take 1) := slice_off (l := l) (q := q + 1) (k := 1) h
theorem e_word {l : List Nat} {q c : Nat} (h : q < l.length) : Txt.slice (S l) (some (q : Nat)) (some ((q + 1 + c : Nat) : Int)) = S ((l.drop q).take (c + 1)) := by
  rw [add_one_add]
  exact slice_off (Nat.le_of_lt h)
theorem len_drop_take {l : List Nat} {q k : Nat} (hl : l.length ≤ 100000) : ((l.drop q).take k).length ≤ 100000 :=
  Nat.le_trans (List.length_take_le' _ _) (Nat.le_trans (by rw [List.length_drop]; exact Nat.sub_le _ _) hl)
theorem bare_S {l w : List Nat} {q k : Nat} (h : q < l.length) (hl : l.length ≤ 100000) (hb : bareF (l.drop q) = some (w,k)) : bareS (S l) q (S [hd (l.drop q)]) = some (S w,q + k) ∧ Txt.upper (S w) = S (w.map up1) := by
  unfold bareF at hb
  rw [List.tail_drop] at hb
  cases h1 : inM 1329227996094400882725152129005125632 (hd (l.drop q)) && Nat.beq (hd (l.drop (q + 1))) 39 with
  | true => rw [h1] at hb; cases hb
  | false =>
  rw [h1,cond_false] at hb
  cases h2 : ((l.drop q).take (cnt onM (l.drop (q + 1)) + 1)).all (Nat.blt · 128) with
  | false => rw [h2] at hb; cases hb
  | true =>
  rw [h2,cond_true] at hb
  cases hb
  refine ⟨?_,upper_S h2⟩
  unfold bareS
  dsimp only
  rw [show (S l).length - (q + 1) = l.length - (q + 1) from rfl,run_S' on_S h,e_word h,e_bare h,in_xX,show (S ((l.drop (q + 1)).take 1) == "'") = Nat.beq (hd (l.drop (q + 1))) 39 from one_beq (c := 39) (by decide),h1,ascii_S h2,upper_S h2,short_S (by rw [List.length_map]; exact len_drop_take hl),add_one_add]
  rfl
noncomputable def numTb : List (List Nat × Int) := [([48],0),([49],1),([55],7),([52,48,57,54],4096),([57,50,50,51,51,55,50,48,51,54,56,53,52,55,55,53,56,48,55],9223372036854775807),([57,50,50,51,51,55,50,48,51,54,56,53,52,55,55,53,56,48,56],9223372036854775808)]
noncomputable def figW (x : Str) : Str := Txt.lstripChars x "0"
noncomputable def valW (x : Str) : Option Int := match decide ((figW x).length ≤ 20) with
  | false => none
  | true => match figW x != "" with
    | true => PySem.intText? (figW x)
    | false => some 0
theorem valS_W (t : Str) (b e : Int) : valS t b e = valW (Txt.slice t (some b) (some e)) := by
  unfold valS valW figS figW
  rfl
noncomputable def oneOf (t : List (List Nat × Int)) (w : List Nat) : Option Int := match t with
  | [] => none
  | (a,n) :: r => cond (a == w) (some n) (oneOf r w)
theorem oneOf_mem : ∀ {t : List (List Nat × Int)} {w : List Nat} {n : Int},oneOf t w = some n → (w,n) ∈ t
  | (a,m) :: r,w,n,h => by
    unfold oneOf at h
    cases hc : a == w with
    | true =>
      rw [hc,cond_true] at h
      cases h
      rw [beq_iff_eq.mp hc]
      exact .head _
    | false =>
      rw [hc,cond_false] at h
      exact .tail _ (oneOf_mem h)
theorem numTb_ok : numTb.all (fun x => (valW (S x.1) == some x.2) && decide (x.2 ≤ 9223372036854775808) && Nat.blt 0 x.1.length) = true := by decide +kernel
noncomputable def numF (r : List Nat) : Option (Int × Nat) :=
  cond (Nat.beq (hd r) 48 && (Nat.beq (hd r.tail) 120 || Nat.beq (hd r.tail) 88)) none
    ((oneOf numTb (r.take (cnt (inM mFIG) r))).bind fun n =>
      cond ((r.drop (cnt (inM mFIG) r)).isEmpty || (!(Nat.beq (hd (r.drop (cnt (inM mFIG) r))) 46) && !(onM (hd (r.drop (cnt (inM mFIG) r)))))) (some (n,cnt (inM mFIG) r)) none)
theorem two_ne {r : List Nat} {a b : Nat} (ha : a ≠ 0) (hb : b ≠ 0) (h : (Nat.beq (hd r) a && Nat.beq (hd r.tail) b) = false) : (S (r.take 2) != S [a,b]) = true := by
  rw [bne_iff_ne]
  intro e
  have e := S_inj e
  cases r with
  | nil => cases e
  | cons x r =>
    cases r with
    | nil => cases e
    | cons y r =>
      have e : [x,y] = [a,b] := e
      cases e
      have h : (Nat.beq a a && Nat.beq b b) = false := h
      simp at h
theorem beq_add {q k : Nat} (h : 0 < k) : (((q : Nat) : Int) == ((q + k : Nat) : Int)) = false := by
  rw [beq_eq_false_iff_ne]
  omega
theorem e_pair {l : List Nat} {q : Nat} (h : q < l.length) : Txt.slice (S l) (some (q : Nat)) (some ((q : Int) + 2)) = S ((l.drop q).take 2) := slice_off (l := l) (q := q) (k := 2) (Nat.le_of_lt h)
theorem add_le_len {l : List Nat} {q k : Nat} (h : q < l.length) (hk : k ≤ (l.drop q).length) : q + k ≤ l.length := by
  rw [List.length_drop] at hk
  omega
theorem num_S {l : List Nat} {q k : Nat} {n : Int} (h : q < l.length) (hb : numF (l.drop q) = some (n,k)) : numS (S l) q = some (n,q + k) := by
  unfold numF at hb
  have hkl := add_le_len h (cnt_le (inM mFIG) (l.drop q))
  unfold numS
  dsimp only
  rw [show (S l).length - q = l.length - q from rfl,run_S' in_FIG (Nat.le_of_lt h),e_pair h,valS_W,slice_off (Nat.le_of_lt h)]
  have e3 : Txt.slice (S l) (some ((q + cnt (inM mFIG) (l.drop q) : Nat) : Int)) (some (((q + cnt (inM mFIG) (l.drop q) : Nat) : Int) + 1)) = S (((l.drop q).drop (cnt (inM mFIG) (l.drop q))).take 1) := by
    rw [List.drop_drop]
    exact slice_off (k := 1) hkl
  rw [e3]
  generalize cnt (inM mFIG) (l.drop q) = c at hb
  generalize l.drop q = r at hb
  clear e3 hkl
  cases h1 : Nat.beq (hd r) 48 && (Nat.beq (hd r.tail) 120 || Nat.beq (hd r.tail) 88) with
  | true => rw [h1] at hb; cases hb
  | false =>
  rw [h1,cond_false] at hb
  obtain ⟨m,hm,hb⟩ := Option.bind_eq_some_iff.mp hb
  have hk := List.all_eq_true.mp numTb_ok _ (oneOf_mem hm)
  simp only [Bool.and_eq_true,beq_iff_eq,decide_eq_true_eq,Nat.blt_eq] at hk
  obtain ⟨⟨hv,hle⟩,hpos⟩ := hk
  generalize r.drop c = rb at hb
  cases h2 : rb.isEmpty || (!(Nat.beq (hd rb) 46) && !(onM (hd rb))) with
  | false => rw [h2] at hb; cases hb
  | true =>
  rw [h2,cond_true] at hb
  cases hb
  have hpos' : 0 < k := Nat.lt_of_lt_of_le hpos (List.length_take_le _ _)
  have a1 : (S (r.take 2) != "0x") = true := two_ne (a := 48) (b := 120) (by decide) (by decide) (by
    cases hx : Nat.beq (hd r) 48 with
    | false => rfl
    | true =>
      rw [hx,Bool.true_and] at h1
      exact (Bool.or_eq_false_iff.mp h1).1)
  have a2 : (S (r.take 2) != "0X") = true := two_ne (a := 48) (b := 88) (by decide) (by decide) (by
    cases hx : Nat.beq (hd r) 48 with
    | false => rfl
    | true =>
      rw [hx,Bool.true_and] at h1
      exact (Bool.or_eq_false_iff.mp h1).2)
  rw [a1,a2,beq_add hpos',hv]
  show (match decide (n ≤ 9223372036854775808) with | false => none | true => _) = _
  rw [decide_eq_true hle]
  cases rb with
  | nil => rfl
  | cons c r =>
    have h2 : (!(Nat.beq c 46) && !(onM c)) = true := h2
    rw [Bool.and_eq_true,Bool.not_eq_true',Bool.not_eq_true'] at h2
    have b1 : (S ((c :: r).take 1) == "") = false := by
      show (S [c] == S []) = false
      rw [S_beq]; rfl
    have b2 : (S ((c :: r).take 1) == ".") = false := (one_beq (r := c :: r) (c := 46) (by decide)).trans h2.1
    have b3 : onS (S ((c :: r).take 1)) = false := (on_S c).trans h2.2
    dsimp only
    rw [b1,b2,b3]
    rfl
end Mine
end
section
namespace Mine
noncomputable def fidx (c : Nat) : List Nat → Option Nat
  | [] => none
  | x :: r => cond (Nat.beq x c) (some 0) ((fidx c r).map (· + 1))
theorem occ_stays (s sub : Str) (hi : Nat) : ∀ (l : List Nat) (st : Array Nat × Nat),0 < st.fst.size → (forIn l st (StrLaws.occBody s sub hi 1)).run = st
  | [],st,_ => rfl
  | a :: l,st,h => by
    rw [List.forIn_cons]
    unfold StrLaws.occBody
    rw [if_neg (by rintro ⟨⟨⟨h1,_⟩,_⟩,_⟩; omega)]
    exact occ_stays s sub hi l st h
theorem occ_from (l : List Nat) (c : Nat) : ∀ (n lo free : Nat),free ≤ lo → lo + n = l.length + 1 → (forIn (List.range' lo n) ((#[] : Array Nat),free) (StrLaws.occBody (S l) (S [c]) l.length 1)).run.fst.toList.head? = (fidx c (l.drop lo)).map (· + lo)
  | 0,lo,free,hf,hn => by
    rw [List.drop_eq_nil_of_le (by omega)]; rfl
  | n + 1,lo,free,hf,hn => by
    rw [List.range'_succ,List.forIn_cons]
    have key := StrLaws.subAt_one (S l) c lo
    have e0 : (S l).cps.toList[lo]? = l[lo]? := rfl
    rw [e0] at key
    by_cases hlt : lo < l.length
    · have hd1 : l.drop lo = l[lo] :: l.drop (lo + 1) := List.drop_eq_getElem_cons hlt
      rw [List.getElem?_eq_getElem hlt] at key
      rw [hd1]
      unfold fidx
      by_cases hc : l[lo] = c
      · have hk := key.mpr (by rw [hc])
        have hb : StrLaws.occBody (S l) (S [c]) l.length 1 lo (#[],free) = pure (ForInStep.yield ((#[] : Array Nat).push lo,lo + (S [c]).length)) := by
          unfold StrLaws.occBody
          rw [if_pos ⟨⟨⟨Nat.zero_lt_one,hf⟩,hk.1⟩,hk.2⟩]
        rw [hb,hc,Nat.beq_refl]
        show (forIn (List.range' (lo + 1) n) ((#[] : Array Nat).push lo,lo + (S [c]).length) (StrLaws.occBody (S l) (S [c]) l.length 1)).run.fst.toList.head? = _
        rw [occ_stays _ _ _ _ _ (by simp)]
        show some lo = some (0 + lo)
        rw [Nat.zero_add]
      · have hk : ¬ (lo + (S [c]).length ≤ l.length ∧ Builtin.Str.subAt (S l) (S [c]) lo = true) := fun h => hc (Option.some.inj (key.mp h))
        have hb : StrLaws.occBody (S l) (S [c]) l.length 1 lo (#[],free) = pure (ForInStep.yield ((#[] : Array Nat),free)) := by
          unfold StrLaws.occBody
          rw [if_neg (fun h => hk ⟨h.1.2,h.2⟩)]
        have hbq : Nat.beq l[lo] c = false := by
          cases h : Nat.beq l[lo] c with
          | false => rfl
          | true => exact absurd (Nat.eq_of_beq_eq_true h) hc
        rw [hb,hbq]
        show (forIn (List.range' (lo + 1) n) ((#[] : Array Nat),free) (StrLaws.occBody (S l) (S [c]) l.length 1)).run.fst.toList.head? = ((fidx c (l.drop (lo + 1))).map (· + 1)).map (· + lo)
        rw [occ_from l c n (lo + 1) free (by omega) (by omega),Option.map_map]
        congr 1
        funext x
        show x + (lo + 1) = x + 1 + lo
        omega
    · have hlo : lo = l.length := by omega
      have hn0 : n = 0 := by omega
      subst hn0
      have hk : ¬ (lo + (S [c]).length ≤ l.length ∧ Builtin.Str.subAt (S l) (S [c]) lo = true) := fun h => by
        have h1 : lo + 1 ≤ l.length := h.1
        omega
      have hb : StrLaws.occBody (S l) (S [c]) l.length 1 lo (#[],free) = pure (ForInStep.yield ((#[] : Array Nat),free)) := by
        unfold StrLaws.occBody
        rw [if_neg (fun h => hk ⟨h.1.2,h.2⟩)]
      rw [hb,List.drop_eq_nil_of_le (by omega)]
      rfl
theorem find_S {l : List Nat} {c b : Nat} (hb : b ≤ l.length) : Txt.find3 (S l) (S [c]) (b : Nat) = match fidx c (l.drop b) with | some i => ((b + i : Nat) : Int) | none => -1 := by
  unfold Txt.find3
  have e : fromIndex (S l).length ((b : Nat) : Int) = b := by
    unfold fromIndex
    rw [if_neg (by omega)]
    omega
  rw [e]
  have h := occ_from l c (l.length + 1 - b) b b (Nat.le_refl _) (by omega)
  rw [show (S l).length = l.length from rfl,StrLaws.occ_eq]
  generalize (forIn (List.range' b (l.length + 1 - b)) ((#[] : Array Nat),b) (StrLaws.occBody (S l) (S [c]) l.length 1)).run.fst.toList = r at h ⊢
  cases hf : fidx c (l.drop b) with
  | none =>
    rw [hf] at h
    cases r with
    | nil => rfl
    | cons a r => cases h
  | some i =>
    rw [hf] at h
    cases r with
    | nil => cases h
    | cons a r =>
      have h : some a = some (i + b) := h
      cases h
      show ((i + b : Nat) : Int) = ((b + i : Nat) : Int)
      rw [Nat.add_comm]
theorem fidx_lt {c : Nat} : ∀ {r : List Nat} {i : Nat},fidx c r = some i → i < r.length
  | x :: r,i,h => by
    unfold fidx at h
    cases hx : Nat.beq x c with
    | true => rw [hx] at h; cases h; exact Nat.succ_pos _
    | false =>
      rw [hx] at h
      obtain ⟨j,hj,rfl⟩ := Option.map_eq_some_iff.mp h
      exact Nat.succ_lt_succ (fidx_lt hj)
noncomputable def closeF (c : Nat) : Nat → List Nat → Option (List (List Nat) × Nat)
  | 0,_ => none
  | f + 1,r => (fidx c r).bind fun i => cond (Nat.beq (hd (r.drop (i + 1))) c) ((closeF c f (r.drop (i + 2))).map fun x => (r.take (i + 1) :: x.1,x.2 + (i + 2))) (some ([r.take i],i + 1))
theorem add_le_len2 {l : List Nat} {b i : Nat} (h : i + 1 < (l.drop b).length) : b + (i + 2) ≤ l.length := by
  rw [List.length_drop] at h
  omega
theorem e_next {l : List Nat} {b i : Nat} (h : b + i < l.length) : Txt.slice (S l) (some (((b + i : Nat) : Int) + 1)) (some (((b + i : Nat) : Int) + 2)) = S (((l.drop b).drop (i + 1)).take 1) := by
  rw [List.drop_drop]
  exact slice_off (l := l) (q := b + i + 1) (k := 1) h
theorem find_some {l : List Nat} {c b i : Nat} (hb : b ≤ l.length) (hi : fidx c (l.drop b) = some i) : Txt.find3 (S l) (S [c]) (b : Nat) = ((b + i : Nat) : Int) := by rw [find_S hb,hi]
theorem fidx_in {l : List Nat} {c b i : Nat} (hi : fidx c (l.drop b) = some i) : b + i < l.length := by
  have := fidx_lt hi
  rw [List.length_drop] at this
  omega
theorem next_in {r : List Nat} {c n : Nat} (hc : c ≠ 0) (h : Nat.beq (hd (r.drop n)) c = true) : n < r.length := by
  apply Classical.byContradiction
  intro hn
  rw [List.drop_eq_nil_of_le (Nat.le_of_not_lt hn)] at h
  exact hc (Nat.eq_of_beq_eq_true (show Nat.beq 0 c = true from h)).symm
theorem close_S {l : List Nat} {c : Nat} (hc : c ≠ 0) : ∀ (f b : Nat) (ps : List Str) {ws : List (List Nat)} {k : Nat},b ≤ l.length → closeF c f (l.drop b) = some (ws,k) → closeS (S l) (S [c]) f (b : Nat) ps = some (ps ++ ws.map S,((b + k : Nat) : Int))
  | 0,b,ps,ws,k,hb,h => by cases h
  | f + 1,b,ps,ws,k,hb,h => by
    unfold closeF at h
    obtain ⟨i,hi,h⟩ := Option.bind_eq_some_iff.mp h
    rw [closeS_s,find_some hb hi,decide_eq_true (Int.natCast_nonneg _),cond_true,e_next (fidx_in hi),one_beq hc]
    cases hq : Nat.beq (hd ((l.drop b).drop (i + 1))) c with
    | true =>
      rw [hq,cond_true] at h
      obtain ⟨⟨ws',k'⟩,hx,e⟩ := Option.map_eq_some_iff.mp h
      cases e
      have hlt : b + (i + 2) ≤ l.length := add_le_len2 (next_in hc hq)
      rw [List.drop_drop] at hx
      rw [cond_true,show Txt.slice (S l) (some (b : Nat)) (some (((b + i : Nat) : Int) + 1)) = S ((l.drop b).take (i + 1)) from slice_off (k := i + 1) hb]
      refine (close_S hc f (b + (i + 2)) (ps ++ [S ((l.drop b).take (i + 1))]) hlt hx).trans ?_
      rw [List.append_assoc,Nat.add_assoc,Nat.add_comm (i + 2) k']
      rfl
    | false =>
      rw [hq,cond_false] at h
      cases h
      rw [cond_false,slice_off hb]
      rfl
noncomputable def quoteF (r : List Nat) : Option (Bool × List Nat × Nat) :=
  cond (Nat.beq (hd r) 91) ((fidx 93 r).bind fun i => some (false,(r.drop 1).take (i - 1),i + 1))
    ((closeF (hd r) 1000 (r.drop 1)).bind fun x => match x with
      | ([a],k) => cond (Nat.ble a.length 1000) (some (Nat.beq (hd r) 39,a,k + 1)) none
      | ([a,b],k) => cond (Nat.ble a.length 1000 && Nat.ble b.length 1000) (some (Nat.beq (hd r) 39,a ++ b,k + 1)) none
      | _ => none)
theorem join1 (a : List Nat) (h : a.length ≤ 1000) : JoinOk "" [S a] = true ∧ Txt.join "" [S a] = S a := by
  refine ⟨?_, ?_⟩
  · unfold JoinOk Builtin.Str.tooLong
    rw [Bool.not_eq_true',decide_eq_false_iff_not,sizeLine_nat]
    show ¬ (16777216 < 0 + a.length + 0)
    omega
  · have := eq_of_beq (join_closes (sep := "") (sep' := "") (ys := [S a]) rfl)
    rw [this]; rfl
theorem join2 (a b : List Nat) (h : a.length ≤ 1000) (h2 : b.length ≤ 1000) : JoinOk "" [S a,S b] = true ∧ Txt.join "" [S a,S b] = S (a ++ b) := by
  refine ⟨?_, ?_⟩
  · unfold JoinOk Builtin.Str.tooLong
    rw [Bool.not_eq_true',decide_eq_false_iff_not,sizeLine_nat]
    show ¬ (16777216 < 0 + a.length + 0 + b.length + 0)
    omega
  · have := eq_of_beq (join_closes (sep := "") (sep' := "") (ys := [S a,S b]) rfl)
    rw [this]
    show (⟨(⟨a⟩ : Array Nat) ++ ⟨[]⟩ ++ ⟨b⟩⟩ : Str) = ⟨⟨a ++ b⟩⟩
    congr 1
    apply Array.ext'
    simp
noncomputable def qk (b : Bool) : Str := cond b "text" "name"
theorem e_brack {l : List Nat} {q i : Nat} (h : q < l.length) (hi : 0 < i) : Txt.slice (S l) (some ((q : Int) + 1)) (some ((q + i : Nat) : Int)) = S (((l.drop q).drop 1).take (i - 1)) := by
  rw [List.drop_drop]
  have := slice_off (l := l) (q := q + 1) (k := i - 1) h
  rw [show q + 1 + (i - 1) = q + i by omega] at this
  exact this
theorem brack_pos {r : List Nat} {i : Nat} (h1 : Nat.beq (hd r) 91 = true) (hi : fidx 93 r = some i) : 0 < i := by
  cases r with
  | nil => cases hi
  | cons c r =>
    have h1 : c = 91 := Nat.eq_of_beq_eq_true h1
    subst h1
    obtain ⟨j,_,e⟩ := Option.map_eq_some_iff.mp (show (fidx 93 r).map (· + 1) = some i from hi)
    rw [← e]
    exact Nat.succ_pos _
theorem quote_end (q k : Nat) : q + 1 + k = q + (k + 1) := add_one_add q k
theorem quote_S {l w : List Nat} {q k : Nat} {tx : Bool} (h : q < l.length) (h0 : hd (l.drop q) ≠ 0) (hb : quoteF (l.drop q) = some (tx,w,k)) : quoteS (S l) (q : Nat) (S [hd (l.drop q)]) = some (qk tx,S w,((q + k : Nat) : Int)) := by
  unfold quoteF at hb
  unfold quoteS
  rw [show (S [hd (l.drop q)] == "[") = Nat.beq (hd (l.drop q)) 91 from one_beq (r := [hd (l.drop q)]) (c := 91) (by decide)]
  cases h1 : Nat.beq (hd (l.drop q)) 91 with
  | true =>
    rw [h1,cond_true] at hb
    obtain ⟨i,hi,e⟩ := Option.bind_eq_some_iff.mp hb
    cases e
    rw [cond_true,show Txt.find3 (S l) "]" (q : Nat) = ((q + i : Nat) : Int) from find_some (c := 93) (Nat.le_of_lt h) hi,decide_eq_true (Int.natCast_nonneg _),cond_true,e_brack h (brack_pos h1 hi)]
    rfl
  | false =>
    rw [h1,cond_false] at hb
    rw [cond_false]
    obtain ⟨⟨ws,k'⟩,hx,hb⟩ := Option.bind_eq_some_iff.mp hb
    rw [List.drop_drop] at hx
    rw [show closeS (S l) (S [hd (l.drop q)]) 1000 ((q : Int) + 1) [] = some (ws.map S,((q + 1 + k' : Nat) : Int)) from close_S h0 1000 (q + 1) [] h hx,quote_end]
    have e39 : (S [hd (l.drop q)] == "'") = Nat.beq (hd (l.drop q)) 39 := one_beq (r := [hd (l.drop q)]) (c := 39) (by decide)
    clear hx h1
    generalize hd (l.drop q) = c at hb e39 ⊢
    match ws,hb with
    | [a],hb =>
      have hb : cond (Nat.ble a.length 1000) (some (Nat.beq c 39,a,k' + 1)) none = some (tx,w,k) := hb
      cases hl : Nat.ble a.length 1000 with
      | false => rw [hl] at hb; cases hb
      | true =>
        rw [hl] at hb
        cases hb
        obtain ⟨j1,j2⟩ := join1 w (Nat.le_of_ble_eq_true hl)
        show (cond (JoinOk "" [S w]) (some (cond (S [c] == "'") ("text" : Str) "name",Txt.join "" [S w],_)) none : Option (Str × Str × Int)) = _
        rw [j1,j2,e39]
        rfl
    | [a,b],hb =>
      have hb : cond (Nat.ble a.length 1000 && Nat.ble b.length 1000) (some (Nat.beq c 39,a ++ b,k' + 1)) none = some (tx,w,k) := hb
      cases hl : Nat.ble a.length 1000 && Nat.ble b.length 1000 with
      | false => rw [hl] at hb; cases hb
      | true =>
        rw [hl] at hb
        cases hb
        rw [Bool.and_eq_true] at hl
        obtain ⟨j1,j2⟩ := join2 a b (Nat.le_of_ble_eq_true hl.1) (Nat.le_of_ble_eq_true hl.2)
        show (cond (JoinOk "" [S a,S b]) (some (cond (S [c] == "'") ("text" : Str) "name",Txt.join "" [S a,S b],_)) none : Option (Str × Str × Int)) = _
        rw [j1,j2,e39]
        rfl
end Mine
end
section
namespace Mine
noncomputable def pairsM : List (Nat × Nat) := [(45,45),(47,42),(60,61),(62,61),(60,62),(33,61),(61,61),(124,124),(60,60),(62,62)]
noncomputable def markF (r : List Nat) : Bool := inM mONE (hd r) && !(pairsM.any fun p => Nat.beq (hd r) p.1 && Nat.beq (hd r.tail) p.2)
theorem two_list : l_SIGNS_OF_TWO = [S [60,61],S [62,61],S [60,62],S [33,61],S [61,61],S [124,124],S [60,60],S [62,62]] := by decide +kernel
theorem mark_S {l : List Nat} {q : Nat} (h : q < l.length) (hm : markF (l.drop q) = true) : markS (S l) (q : Nat) (S [hd (l.drop q)]) = true := by
  unfold markF at hm
  rw [Bool.and_eq_true,Bool.not_eq_true'] at hm
  obtain ⟨h1,h2⟩ := hm
  have ne : ∀ p ∈ pairsM,S ((l.drop q).take 2) ≠ S [p.1,p.2] := fun p hp => by
    have h3 : (Nat.beq (hd (l.drop q)) p.1 && Nat.beq (hd (l.drop q).tail) p.2) = false := by
      exact eq_false_of_ne_true (List.any_eq_false.mp h2 p hp)
    have h0 : p.1 ≠ 0 ∧ p.2 ≠ 0 := by
      have : ∀ p ∈ pairsM,p.1 ≠ 0 ∧ p.2 ≠ 0 := by decide
      exact this p hp
    have := two_ne h0.1 h0.2 h3
    exact bne_iff_ne.mp this
  have e1 : Txt.slice (S l) (some (q : Nat)) (some ((q : Int) + 2)) = S ((l.drop q).take 2) := by
    have := slice_any (l := l) (a := q) (b := q + 2) (by omega) (by omega)
    rw [show q + 2 - q = 2 by omega] at this
    exact this
  unfold markS
  rw [e1,in_ONE,h1,two_list]
  have n1 := ne (45,45) (by decide)
  have n2 := ne (47,42) (by decide)
  have a1 : (S ((l.drop q).take 2) == "--") = false := beq_eq_false_iff_ne.mpr n1
  have a2 : (S ((l.drop q).take 2) == "/*") = false := beq_eq_false_iff_ne.mpr n2
  rw [a1,a2]
  have a3 : ([S [60,61],S [62,61],S [60,62],S [33,61],S [61,61],S [124,124],S [60,60],S [62,62]].any (· == S ((l.drop q).take 2))) = false := by
    rw [List.any_eq_false]
    intro x hx
    rw [beq_iff_eq]
    intro hxe
    have hx' : ∃ p ∈ pairsM,x = S [p.1,p.2] := by
      simp only [List.mem_cons,List.not_mem_nil,or_false] at hx
      rcases hx with rfl | rfl | rfl | rfl | rfl | rfl | rfl | rfl
      · exact ⟨(60,61),by decide,rfl⟩
      · exact ⟨(62,61),by decide,rfl⟩
      · exact ⟨(60,62),by decide,rfl⟩
      · exact ⟨(33,61),by decide,rfl⟩
      · exact ⟨(61,61),by decide,rfl⟩
      · exact ⟨(124,124),by decide,rfl⟩
      · exact ⟨(60,60),by decide,rfl⟩
      · exact ⟨(62,62),by decide,rfl⟩
    obtain ⟨p,hp,hpe⟩ := hx'
    exact ne p hp (hxe.symm.trans hpe)
  rw [a3]
  rfl
noncomputable def scanF : Nat → List Nat → Nat → List Wd → Option (List Wd)
  | 0,_,_,_ => none
  | f + 1,r,q,ws => cond r.isEmpty (some (ws ++ [⟨"end","",.none,q⟩]))
      (cond (inM mBLANK (hd r)) (scanF f r.tail (q + 1) ws)
        (cond (begM (hd r)) ((bareF r).bind fun x => scanF f (r.drop x.2) (q + x.2) (ws ++ [⟨"name",S (x.1.map up1),.str (S x.1),q⟩]))
          (cond (inM mFIG (hd r)) ((numF r).bind fun x => scanF f (r.drop x.2) (q + x.2) (ws ++ [⟨"number","",.int x.1,q⟩]))
            (cond (inM mQUO (hd r)) ((quoteF r).bind fun x => scanF f (r.drop x.2.2) (q + x.2.2) (ws ++ [⟨qk x.1,"",.str (S x.2.1),q⟩]))
              (cond (markF r) (scanF f r.tail (q + 1) (ws ++ [⟨"sign",S [hd r],.none,q⟩])) none)))))
theorem fidx_pos {c : Nat} {r : List Nat} {i : Nat} (h : fidx c r = some i) : i < r.length := fidx_lt h
theorem closeF_le {c : Nat} : ∀ {f : Nat} {r : List Nat} {x : List (List Nat) × Nat},closeF c f r = some x → c ≠ 0 → x.2 ≤ r.length
  | f + 1,r,x,h,hc => by
    unfold closeF at h
    obtain ⟨i,hi,h⟩ := Option.bind_eq_some_iff.mp h
    have := fidx_lt hi
    cases hq : Nat.beq (hd (r.drop (i + 1))) c with
    | true =>
      rw [hq] at h
      obtain ⟨y,hy,rfl⟩ := Option.map_eq_some_iff.mp h
      have hlt : i + 1 < r.length := by
        apply Classical.byContradiction
        intro hn
        rw [List.drop_eq_nil_of_le (by omega)] at hq
        exact hc (Nat.eq_of_beq_eq_true (show Nat.beq 0 c = true from hq)).symm
      have := closeF_le hy hc
      rw [List.length_drop] at this
      show y.2 + (i + 2) ≤ r.length
      omega
    | false =>
      rw [hq] at h
      cases h
      show i + 1 ≤ r.length
      omega
theorem quoteF_le {r : List Nat} {x : Bool × List Nat × Nat} (h0 : hd r ≠ 0) (h : quoteF r = some x) : x.2.2 ≤ r.length := by
  unfold quoteF at h
  cases h1 : Nat.beq (hd r) 91 with
  | true =>
    rw [h1] at h
    obtain ⟨i,hi,e⟩ := Option.bind_eq_some_iff.mp h
    cases e
    exact fidx_lt hi
  | false =>
    rw [h1] at h
    obtain ⟨y,hy,e⟩ := Option.bind_eq_some_iff.mp h
    have hl := closeF_le hy h0
    have hr : 0 < r.length := by
      cases r with
      | nil => exact absurd rfl h0
      | cons a r => exact Nat.succ_pos _
    rw [List.length_drop] at hl
    obtain ⟨ws,k⟩ := y
    have hl : k ≤ r.length - 1 := hl
    match ws,e with
    | [a],e =>
      have e : cond (Nat.ble a.length 1000) (some (Nat.beq (hd r) 39,a,k + 1)) none = some x := e
      cases hx : Nat.ble a.length 1000 with
      | false => rw [hx] at e; cases e
      | true => rw [hx] at e; cases e; show k + 1 ≤ r.length; omega
    | [a,b],e =>
      have e : cond (Nat.ble a.length 1000 && Nat.ble b.length 1000) (some (Nat.beq (hd r) 39,a ++ b,k + 1)) none = some x := e
      cases hx : Nat.ble a.length 1000 && Nat.ble b.length 1000 with
      | false => rw [hx] at e; cases e
      | true => rw [hx] at e; cases e; show k + 1 ≤ r.length; omega
theorem bareF_le {r : List Nat} {x : List Nat × Nat} (hr : 0 < r.length) (h : bareF r = some x) : x.2 ≤ r.length := by
  unfold bareF at h
  cases h1 : inM 1329227996094400882725152129005125632 (hd r) && Nat.beq (hd r.tail) 39 with
  | true => rw [h1] at h; cases h
  | false =>
  rw [h1,cond_false] at h
  cases h2 : (r.take (cnt onM r.tail + 1)).all (Nat.blt · 128) with
  | false => rw [h2] at h; cases h
  | true =>
  rw [h2,cond_true] at h
  cases h
  have := cnt_le onM r.tail
  rw [List.length_tail] at this
  show cnt onM r.tail + 1 ≤ r.length
  omega
theorem numF_le {r : List Nat} {x : Int × Nat} (h : numF r = some x) : x.2 ≤ r.length := by
  unfold numF at h
  cases h1 : Nat.beq (hd r) 48 && (Nat.beq (hd r.tail) 120 || Nat.beq (hd r.tail) 88) with
  | true => rw [h1] at h; cases h
  | false =>
  rw [h1,cond_false] at h
  obtain ⟨n,hn,h⟩ := Option.bind_eq_some_iff.mp h
  generalize hc : ((r.drop (cnt (inM mFIG) r)).isEmpty || (!(Nat.beq (hd (r.drop (cnt (inM mFIG) r))) 46) && !(onM (hd (r.drop (cnt (inM mFIG) r)))))) = b at h
  cases b with
  | false => cases h
  | true =>
    cases h
    exact cnt_le (inM mFIG) r
theorem scan_S {l : List Nat} (hl : l.length ≤ 100000) : ∀ (f q : Nat) (ws : List Wd) {out : List Wd},q ≤ l.length → scanF f (l.drop q) q ws = some out → scanS (S l) f q ws = some out
  | 0,q,ws,out,hq,h => by cases h
  | f + 1,q,ws,out,hq,h => by
    unfold scanF at h
    rw [scanS_s]
    by_cases hlt : q < l.length
    · have hne : (l.drop q).isEmpty = false := by
        rw [List.isEmpty_eq_false_iff]
        intro e
        have := congrArg List.length e
        rw [List.length_drop] at this
        have : l.length - q = 0 := this
        omega
      rw [hne,cond_false] at h
      rw [show decide (q < (S l).length) = true from decide_eq_true hlt,cond_true,item_S hlt,in_BLANK,beg_S]
      have eF : inStr (S [hd (l.drop q)]) "0123456789" = inM mFIG (hd (l.drop q)) := in_FIG _
      rw [eF,in_QUO]
      have ht : (l.drop q).tail = l.drop (q + 1) := by rw [List.tail_drop]
      have hlen : (l.drop q).length = l.length - q := List.length_drop
      cases h1 : inM mBLANK (hd (l.drop q)) with
      | true =>
        rw [h1,cond_true,ht] at h
        rw [cond_true]
        exact scan_S hl f (q + 1) ws (by omega) h
      | false =>
      rw [h1,cond_false] at h
      rw [cond_false]
      cases h2 : begM (hd (l.drop q)) with
      | true =>
        rw [h2,cond_true] at h
        rw [cond_true]
        obtain ⟨x,hx,h⟩ := Option.bind_eq_some_iff.mp h
        obtain ⟨w,k⟩ := x
        obtain ⟨b1,b2⟩ := bare_S hlt hl hx
        rw [b1]
        have hk := bareF_le (by omega) hx
        rw [List.drop_drop] at h
        show scanS (S l) f (q + k) (ws ++ [⟨"name",Txt.upper (S w),.str (S w),q⟩]) = some out
        rw [b2]
        exact scan_S hl f (q + k) _ (by show q + k ≤ l.length; have : k ≤ (l.drop q).length := hk; omega) h
      | false =>
      rw [h2,cond_false] at h
      rw [cond_false]
      cases h3 : inM mFIG (hd (l.drop q)) with
      | true =>
        rw [h3,cond_true] at h
        rw [cond_true]
        obtain ⟨x,hx,h⟩ := Option.bind_eq_some_iff.mp h
        obtain ⟨n,k⟩ := x
        rw [num_S hlt hx]
        have hk := numF_le hx
        rw [List.drop_drop] at h
        exact scan_S hl f (q + k) _ (by show q + k ≤ l.length; have : k ≤ (l.drop q).length := hk; omega) h
      | false =>
      rw [h3,cond_false] at h
      rw [cond_false]
      cases h4 : inM mQUO (hd (l.drop q)) with
      | true =>
        rw [h4,cond_true] at h
        rw [cond_true]
        obtain ⟨x,hx,h⟩ := Option.bind_eq_some_iff.mp h
        obtain ⟨tx,w,k⟩ := x
        have h0 : hd (l.drop q) ≠ 0 := fun e => by rw [e] at h4; cases h4
        rw [quote_S hlt h0 hx]
        have hk := quoteF_le h0 hx
        rw [List.drop_drop] at h
        show cond (decide ((0 : Int) ≤ ((q + k : Nat) : Int))) (scanS (S l) f ((q + k : Nat) : Int).toNat (ws ++ [⟨qk tx,"",.str (S w),q⟩])) none = some out
        rw [decide_eq_true (show (0 : Int) ≤ ((q + k : Nat) : Int) by omega),cond_true,Int.toNat_natCast]
        exact scan_S hl f (q + k) _ (by show q + k ≤ l.length; have : k ≤ (l.drop q).length := hk; omega) h
      | false =>
      rw [h4,cond_false] at h
      rw [cond_false]
      cases h5 : markF (l.drop q) with
      | false => rw [h5] at h; cases h
      | true =>
        rw [h5,cond_true,ht] at h
        rw [mark_S hlt h5,cond_true]
        exact scan_S hl f (q + 1) _ (by omega) h
    · have : q = l.length := by omega
      subst this
      rw [List.drop_length] at h
      rw [show decide (l.length < (S l).length) = false from decide_eq_false hlt,cond_false]
      exact h
noncomputable def readF (l : List Nat) : Option PV := cond (Nat.ble l.length 5000) ((scanF 1000 l 0 []).bind fun ws => cond (Nat.ble ws.length 999999) (overS ws (pTrans ws 0)) none) none
theorem read_S {l : List Nat} {p : PV} (h : readF l = some p) : ReadOk (S l) p := by
  unfold readF at h
  cases h1 : Nat.ble l.length 5000 with
  | false => rw [h1] at h; cases h
  | true =>
    rw [h1,cond_true] at h
    obtain ⟨ws,hs,h⟩ := Option.bind_eq_some_iff.mp h
    have hl := Nat.le_of_ble_eq_true h1
    cases h2 : Nat.ble ws.length 999999 with
    | false => rw [h2] at h; cases h
    | true =>
      rw [h2,cond_true] at h
      exact ⟨ws,show l.length ≤ 100000 by omega,scan_S (by omega) 1000 0 [] (Nat.zero_le _) hs,Nat.lt_succ_of_le (Nat.le_of_ble_eq_true h2),h⟩
end Mine
end
section
namespace Mine
noncomputable def cd {α : Type} (b : Bool) (x y : α) : α := Bool.rec y x b
noncomputable def inG (m c : Nat) : Bool := Nat.beq (Nat.land (Nat.shiftRight m c) 1) 1
theorem inG_eq (m c : Nat) : inG m c = inM m c := by
  have e : Nat.land (Nat.shiftRight m c) 1 = (m >>> c) % 2 := Nat.and_one_is_mod _
  unfold inG inM
  rw [e,Nat.testBit_eq_decide_div_mod_eq,Nat.shiftRight_eq_div_pow,Bool.eq_iff_iff,Nat.beq_eq,decide_eq_true_eq]
noncomputable def eqL (a : List Nat) : List Nat → Bool :=
  List.rec (motive := fun _ => List Nat → Bool) (fun b => List.rec true (fun _ _ _ => false) b) (fun x _ ih b => List.rec false (fun y t _ => cd (Nat.beq x y) (ih t) false) b) a
theorem cd_t {α : Type} (x y : α) : cd true x y = x := rfl
theorem cd_f {α : Type} (x y : α) : cd false x y = y := rfl
theorem eqL_iff : ∀ {a b : List Nat},eqL a b = true ↔ a = b
  | [],[] => by simp [eqL]
  | [],y :: t => by simp [eqL]
  | x :: s,[] => by simp [eqL]
  | x :: s,y :: t => by
    show cd (Nat.beq x y) (eqL s t) false = true ↔ _
    rw [List.cons.injEq,← eqL_iff,← Nat.beq_eq]
    cases Nat.beq x y <;> simp [cd]
theorem eqL_S (a b : List Nat) : (S a == S b) = eqL a b := by
  rw [S_beq,Bool.eq_iff_iff,beq_iff_eq,eqL_iff]
noncomputable def spanK {α : Type} (p : Nat → Bool) (r : List Nat) : (List Nat → List Nat → α) → α :=
  List.rec (motive := fun _ => (List Nat → List Nat → α) → α) (fun K => K [] []) (fun c t ih K => cd (p c) (ih fun w z => K (c :: w) z) (K [] (c :: t))) r
theorem spanK_eq {α : Type} (p : Nat → Bool) : ∀ (r : List Nat) (K : List Nat → List Nat → α),spanK p r K = K (r.take (cnt p r)) (r.drop (cnt p r))
  | [],K => rfl
  | c :: t,K => by
    show cd (p c) (spanK p t fun w z => K (c :: w) z) (K [] (c :: t)) = _
    unfold cnt
    cases p c with
    | true => exact spanK_eq p t _
    | false => rfl
noncomputable def allG (w : List Nat) : Bool := List.rec true (fun c _ ih => cd (Nat.ble c 127) ih false) w
theorem allG_eq : ∀ w : List Nat,allG w = true → w.all (Nat.blt · 128) = true
  | [],_ => rfl
  | c :: w,h => by
    have h : cd (Nat.ble c 127) (allG w) false = true := h
    rw [List.all_cons,Bool.and_eq_true]
    cases hb : Nat.ble c 127 with
    | false => rw [hb] at h; cases h
    | true =>
      rw [hb] at h
      exact ⟨(Nat.blt_eq).mpr (Nat.lt_succ_of_le (Nat.le_of_ble_eq_true hb)),allG_eq w h⟩
structure FW where
  k : Nat
  t : List Nat
  v : PV
  p : Nat
noncomputable def kS : Nat → Str
  | 0 => "name" | 1 => "text" | 2 => "number" | 3 => "sign" | _ => "end"
noncomputable def FW.w (x : FW) : Wd := ⟨kS x.k,S x.t,x.v,(x.p : Nat)⟩
noncomputable def begG (c : Nat) : Bool := cd (inG mLET c) true (Nat.ble 128 c)
noncomputable def onG (c : Nat) : Bool := cd (inG mNAME c) true (Nat.ble 128 c)
theorem begG_eq (c : Nat) : begG c = begM c := by
  unfold begG begM
  rw [inG_eq]
  cases inM mLET c <;> rfl
theorem onG_eq : onG = onM := funext fun c => by
  unfold onG onM
  rw [inG_eq]
  cases inM mNAME c <;> rfl
noncomputable def hdG (r : List Nat) : Nat := List.rec 0 (fun c _ _ => c) r
theorem hdG_eq : ∀ r,hdG r = hd r
  | [] => rfl
  | _ :: _ => rfl
noncomputable def xG (c d : Nat) : Bool := cd (inG 1329227996094400882725152129005125632 c) (Nat.beq d 39) false
noncomputable def hexG (c d : Nat) : Bool := cd (Nat.beq c 48) (Nat.beq d 120 || Nat.beq d 88) false
noncomputable def pairG (c d : Nat) : Bool := cd (inG mONE c) (!(pairsM.any fun p => Nat.beq c p.1 && Nat.beq d p.2)) false
noncomputable def okG (d : Nat) : Bool := cd (Nat.beq d 46) false (!(onG d))
noncomputable def neG (c x : Nat) : Bool := !(Nat.beq x c)
noncomputable def numG (w : List Nat) : Option Int := List.rec none (fun x _ ih => cd (eqL x.1 w) (some x.2) ih) numTb
theorem numG_eq {w : List Nat} : numG w = oneOf numTb w := by
  unfold numG
  have h : ∀ t : List (List Nat × Int),(List.rec none (fun x _ ih => cd (eqL x.1 w) (some x.2) ih) t : Option Int) = oneOf t w := by
    intro t
    induction t with
    | nil => rfl
    | cons x t ih =>
      obtain ⟨a,n⟩ := x
      show cd (eqL a w) (some n) _ = cond (a == w) (some n) (oneOf t w)
      rw [ih,show (a == w) = eqL a w by rw [Bool.eq_iff_iff,beq_iff_eq,eqL_iff]]
      cases eqL a w <;> rfl
  exact h numTb
noncomputable def tailK {α : Type} (r : List Nat) (n : α) (K : Nat → List Nat → α) : α := List.rec n (fun c t _ => K c t) r
noncomputable def bareK (c : Nat) (r : List Nat) (K : List Nat → List Nat → Option PV) : Option PV :=
  cd (xG c (hdG r)) none (spanK onG r fun w z => cd (allG (c :: w)) (K (c :: w) z) none)
noncomputable def numK (c : Nat) (r : List Nat) (K : Int → List Nat → List Nat → Option PV) : Option PV :=
  cd (hexG c (hdG r)) none (spanK (inG mFIG) r fun w z => (numG (c :: w)).rec none fun n => cd (tailK z true fun d _ => okG d) (K n (c :: w) z) none)
noncomputable def brackK (r : List Nat) (K : List Nat → List Nat → Option PV) : Option PV :=
  spanK (neG 93) r fun w z => tailK z none fun _ z => K w z
noncomputable def quoteK (c : Nat) (r : List Nat) (K : List Nat → List Nat → Option PV) : Option PV :=
  spanK (neG c) r fun w z => tailK z none fun _ z => cd (Nat.beq (hdG z) c)
    (tailK z none fun _ z => spanK (neG c) z fun u y => tailK y none fun _ y => cd (Nat.beq (hdG y) c) none (K (w ++ c :: u) y))
    (K w z)
noncomputable def scanK (f : Nat) : List Nat → Nat → (List FW → Option PV) → Option PV :=
  Nat.rec (motive := fun _ => List Nat → Nat → (List FW → Option PV) → Option PV) (fun _ _ _ => none) (fun _ ih r q K =>
    tailK r (K [⟨4,[],.none,q⟩]) fun c r =>
      cd (inG mBLANK c) (ih r (q + 1) K)
      (cd (begG c) (bareK c r fun w z => ih z (q + w.length) fun ws => K (⟨0,w.map up1,.str (S w),q⟩ :: ws))
      (cd (inG mFIG c) (numK c r fun n w z => ih z (q + w.length) fun ws => K (⟨2,[],.int n,q⟩ :: ws))
      (cd (Nat.beq c 91) (brackK r fun w z => ih z (q + (w.length + 2)) fun ws => K (⟨0,[],.str (S w),q⟩ :: ws))
      (cd (inG mQUO c) (quoteK c r fun w z => ih z (q + ((r.length + 1) - z.length)) fun ws => K (⟨cd (Nat.beq c 39) 1 0,[],.str (S w),q⟩ :: ws))
      (cd (pairG c (hdG r)) (ih r (q + 1) fun ws => K (⟨3,[c],.none,q⟩ :: ws)) none)))))) f
theorem cd_some {α : Type} {b : Bool} {x : Option α} {p : α} (h : cd b x none = some p) : b = true ∧ x = some p := by
  cases b with
  | true => exact ⟨rfl,h⟩
  | false => cases h
theorem cd_none {α : Type} {b : Bool} {x : Option α} {p : α} (h : cd b none x = some p) : b = false ∧ x = some p := by
  cases b with
  | false => exact ⟨rfl,h⟩
  | true => cases h
theorem tail_some {α : Type} {r : List Nat} {K : Nat → List Nat → Option α} {p : α} (h : tailK r none K = some p) : ∃ c t,r = c :: t ∧ K c t = some p := by
  cases r with
  | nil => cases h
  | cons c t => exact ⟨c,t,rfl,h⟩
theorem cnt_drop {r z : List Nat} {p : Nat → Bool} {n : Nat} (hn : n = cnt p r) (hz : z = r.drop n) : z.length + n = r.length := by
  subst hn hz
  rw [List.length_drop]
  exact Nat.sub_add_cancel (cnt_le p r)
theorem bareK_s {c : Nat} {r : List Nat} {K : List Nat → List Nat → Option PV} {p : PV} (h : bareK c r K = some p) : ∃ w z,bareF (c :: r) = some (w,w.length) ∧ (c :: r).drop w.length = z ∧ K w z = some p := by
  unfold bareK at h
  obtain ⟨h1,h⟩ := cd_none h
  rw [spanK_eq,onG_eq] at h
  obtain ⟨h2,h⟩ := cd_some h
  have hl : (c :: r.take (cnt onM r)).length = cnt onM r + 1 := by
    rw [List.length_cons,List.length_take,Nat.min_eq_left (cnt_le _ _)]
  refine ⟨_,_, ?_, ?_,h⟩
  · unfold bareF
    rw [hl]
    show cond (inM 1329227996094400882725152129005125632 c && Nat.beq (hd r) 39) none (cond ((c :: r.take (cnt onM r)).all (Nat.blt · 128)) (some (c :: r.take (cnt onM r),cnt onM r + 1)) none) = _
    rw [allG_eq _ h2,show (inM 1329227996094400882725152129005125632 c && Nat.beq (hd r) 39) = false by
      rw [← hdG_eq,← inG_eq,← h1]; unfold xG; cases inG 1329227996094400882725152129005125632 c <;> rfl]
    rfl
  · rw [hl]; rfl
theorem numK_s {c : Nat} {r : List Nat} {K : Int → List Nat → List Nat → Option PV} {p : PV} (hc : inG mFIG c = true) (h : numK c r K = some p) : ∃ n w z,numF (c :: r) = some (n,w.length) ∧ (c :: r).drop w.length = z ∧ K n w z = some p := by
  unfold numK at h
  obtain ⟨h1,h⟩ := cd_none h
  rw [spanK_eq,show inG mFIG = inM mFIG from funext fun c => inG_eq _ c] at h
  have hl : (c :: r.take (cnt (inM mFIG) r)).length = cnt (inM mFIG) r + 1 := by
    rw [List.length_cons,List.length_take,Nat.min_eq_left (cnt_le _ _)]
  have hcnt : cnt (inM mFIG) (c :: r) = cnt (inM mFIG) r + 1 := by
    show cond (inM mFIG c) _ _ = _
    rw [← inG_eq,hc]; rfl
  rw [numG_eq] at h
  cases hn : oneOf numTb (c :: r.take (cnt (inM mFIG) r)) with
  | none => rw [hn] at h; cases h
  | some n =>
    rw [hn] at h
    obtain ⟨h2,h⟩ := cd_some h
    refine ⟨n,_,_, ?_, ?_,h⟩
    · unfold numF
      rw [hl,hcnt]
      show cond (Nat.beq c 48 && (Nat.beq (hd r) 120 || Nat.beq (hd r) 88)) none ((oneOf numTb (c :: r.take (cnt (inM mFIG) r))).bind fun n => cond ((r.drop (cnt (inM mFIG) r)).isEmpty || (!(Nat.beq (hd (r.drop (cnt (inM mFIG) r))) 46) && !(onM (hd (r.drop (cnt (inM mFIG) r)))))) (some (n,cnt (inM mFIG) r + 1)) none) = _
      rw [show (Nat.beq c 48 && (Nat.beq (hd r) 120 || Nat.beq (hd r) 88)) = false by
        rw [← hdG_eq,← h1]; unfold hexG; cases Nat.beq c 48 <;> rfl,hn]
      show cond _ _ none = _
      generalize r.drop (cnt (inM mFIG) r) = z at h2 ⊢
      cases z with
      | nil => rfl
      | cons d z =>
        have h2 : cd (Nat.beq d 46) false (!(onG d)) = true := h2
        rw [onG_eq] at h2
        show cond (false || (!(Nat.beq d 46) && !(onM d))) _ none = _
        cases hd46 : Nat.beq d 46 with
        | true => rw [hd46] at h2; cases h2
        | false =>
          rw [hd46] at h2
          rw [show (!(onM d)) = true from h2]
          rfl
    · rw [hl]; rfl
theorem fidx_cnt {c : Nat} : ∀ {r z : List Nat} {y : Nat},r.drop (cnt (neG c) r) = y :: z → fidx c r = some (cnt (neG c) r)
  | [],z,y,h => by cases h
  | x :: r,z,y,h => by
    unfold fidx
    unfold cnt at h ⊢
    unfold neG at h ⊢
    cases hx : Nat.beq x c with
    | true => rfl
    | false =>
      rw [hx] at h
      have h : r.drop (cnt (neG c) r) = y :: z := h
      show (fidx c r).map (· + 1) = some (cnt (neG c) r + 1)
      rw [fidx_cnt h]; rfl
theorem take_len {p : Nat → Bool} {r : List Nat} : (r.take (cnt p r)).length = cnt p r := by
  rw [List.length_take,Nat.min_eq_left (cnt_le _ _)]
theorem drop_next {r z : List Nat} {y n : Nat} (h : r.drop n = y :: z) : r.drop (n + 1) = z := by
  rw [← List.drop_drop,h]; rfl
theorem brackK_s {r : List Nat} {K : List Nat → List Nat → Option PV} {p : PV} (h : brackK r K = some p) : ∃ w z,quoteF (91 :: r) = some (false,w,w.length + 2) ∧ (91 :: r).drop (w.length + 2) = z ∧ K w z = some p := by
  unfold brackK at h
  rw [spanK_eq] at h
  obtain ⟨y,z,hz,h⟩ := tail_some h
  refine ⟨_,_, ?_, ?_,h⟩
  · rw [take_len]
    show (fidx 93 (91 :: r)).bind _ = _
    rw [show fidx 93 (91 :: r) = some (cnt (neG 93) r + 1) by show (fidx 93 r).map (· + 1) = _; rw [fidx_cnt hz]; rfl]
    rfl
  · rw [take_len]
    exact drop_next hz
theorem quoteK_s {c : Nat} {r : List Nat} {K : List Nat → List Nat → Option PV} {p : PV} (hc : Nat.beq c 91 = false) (hr : r.length ≤ 1000) (h : quoteK c r K = some p) :
    ∃ w z,quoteF (c :: r) = some (Nat.beq c 39,w,r.length + 1 - z.length) ∧ (c :: r).drop (r.length + 1 - z.length) = z ∧ K w z = some p := by
  have hdr : ∀ {n : Nat} {z : List Nat},r.drop n = z → n ≤ r.length → r.length + 1 - z.length = n + 1 := fun {n z} e hn => by
    rw [← e,List.length_drop]; omega
  unfold quoteK at h
  rw [spanK_eq] at h
  obtain ⟨y,z,hz,h⟩ := tail_some h
  have f1 := fidx_cnt hz
  have l1 : cnt (neG c) r < r.length := fidx_lt f1
  have d1 := drop_next hz
  have ht : ∀ n,Nat.ble (r.take n).length 1000 = true := fun n => Nat.ble_eq_true_of_le (Nat.le_trans (List.length_take_le' _ _) hr)
  have q1 : ∀ x,closeF c 1000 r = some x → quoteF (c :: r) = (match x with
      | ([a],k) => cond (Nat.ble a.length 1000) (some (Nat.beq c 39,a,k + 1)) none
      | ([a,b],k) => cond (Nat.ble a.length 1000 && Nat.ble b.length 1000) (some (Nat.beq c 39,a ++ b,k + 1)) none
      | _ => none) := fun x e => by
    unfold quoteF
    show cond (Nat.beq c 91) _ ((closeF c 1000 r).bind _) = _
    rw [hc,e]; rfl
  have c1 : ∀ g r',closeF c (g + 1) r' = (fidx c r').bind fun i => cond (Nat.beq (hd (r'.drop (i + 1))) c) ((closeF c g (r'.drop (i + 2))).map fun x => (r'.take (i + 1) :: x.1,x.2 + (i + 2))) (some ([r'.take i],i + 1)) := fun _ _ => rfl
  cases hq : Nat.beq (hdG z) c with
  | false =>
    rw [hq] at h
    have e : r.length + 1 - z.length = cnt (neG c) r + 1 + 1 := hdr d1 l1
    refine ⟨_,z, ?_,by rw [e]; exact d1,h⟩
    rw [q1 ([r.take (cnt (neG c) r)],cnt (neG c) r + 1) (by rw [c1,f1]; show cond (Nat.beq (hd (r.drop (cnt (neG c) r + 1))) c) _ _ = _; rw [d1,← hdG_eq,hq]; rfl)]
    show cond (Nat.ble (r.take (cnt (neG c) r)).length 1000) _ none = _
    rw [ht,e]; rfl
  | true =>
    rw [hq,cd_t] at h
    obtain ⟨y2,z2,hz2,h'⟩ := tail_some h
    clear h
    subst hz2
    rw [spanK_eq] at h'
    obtain ⟨y3,z3,hz3,h'⟩ := tail_some h'
    obtain ⟨hn,h⟩ := cd_none h'
    clear h'
    have d2 : r.drop (cnt (neG c) r + 2) = z2 := drop_next d1
    have f2 := fidx_cnt hz3
    have d3 := drop_next hz3
    have l2 : cnt (neG c) z2 < z2.length := fidx_lt f2
    have lz : z2.length = r.length - (cnt (neG c) r + 2) := by rw [← d2,List.length_drop]
    have d4 : r.drop (cnt (neG c) z2 + 1 + (cnt (neG c) r + 2)) = z3 := by rw [Nat.add_comm,← List.drop_drop,d2,d3]
    have e : r.length + 1 - z3.length = cnt (neG c) z2 + 1 + (cnt (neG c) r + 2) + 1 := hdr d4 (by omega)
    have hy : c = y2 := (Nat.eq_of_beq_eq_true (show Nat.beq y2 c = true from hq)).symm
    have ha : ∀ {r : List Nat} {n : Nat} {y : Nat} {z : List Nat},r.drop n = y :: z → r.take (n + 1) = r.take n ++ [y] := fun {r n y z} e => by
      rw [List.take_add_one,← List.head?_drop,e]; rfl
    have hy1 : y = c := by
      have := fidx_cnt (c := c) hz
      clear h ht q1 c1 hdr
      revert hz
      generalize hr0 : r = r0
      clear hr0
      intro hz
      induction r0 with
      | nil => cases hz
      | cons x r0 ih =>
        unfold cnt neG at hz
        cases hx : Nat.beq x c with
        | true =>
          rw [hx] at hz
          have hz : x :: r0 = y :: y2 :: z2 := hz
          rw [← (List.cons.inj hz).1]; exact Nat.eq_of_beq_eq_true hx
        | false =>
          rw [hx] at hz
          exact ih hz
    refine ⟨_,z3, ?_,by rw [e]; exact d4,h⟩
    rw [q1 ([r.take (cnt (neG c) r + 1),z2.take (cnt (neG c) z2)],cnt (neG c) z2 + 1 + (cnt (neG c) r + 2)) (by
      rw [c1,f1]
      show cond (Nat.beq (hd (r.drop (cnt (neG c) r + 1))) c) ((closeF c 999 (r.drop (cnt (neG c) r + 2))).map _) _ = _
      rw [d1,← hdG_eq,hq,d2,c1,f2]
      show Option.map _ (cond (Nat.beq (hd (z2.drop (cnt (neG c) z2 + 1))) c) _ _) = _
      rw [d3,← hdG_eq,hn]; rfl)]
    show cond (Nat.ble (r.take (cnt (neG c) r + 1)).length 1000 && Nat.ble (z2.take (cnt (neG c) z2)).length 1000) _ none = _
    rw [ht,show Nat.ble (z2.take (cnt (neG c) z2)).length 1000 = true from Nat.ble_eq_true_of_le (Nat.le_trans (List.length_take_le' _ _) (by omega)),e,ha hz,hy1,List.append_assoc]
    rfl
theorem scanK_s : ∀ (f : Nat) (r : List Nat) (q : Nat) (K : List FW → Option PV) (p : PV) (ws : List Wd),r.length ≤ 1000 → scanK f r q K = some p → ∃ out,scanF f r q ws = some (ws ++ out.map FW.w) ∧ K out = some p
  | 0,r,q,K,p,ws,hr,h => by cases h
  | f + 1,[],q,K,p,ws,hr,h => ⟨[⟨4,[],.none,q⟩],rfl,h⟩
  | f + 1,c :: r,q,K,p,ws,hr,h => by
    have hr' : r.length ≤ 1000 := Nat.le_of_succ_le hr
    have go : ∀ {n : Nat} {z : List Nat} (x : FW),(c :: r).drop n = z → scanK f z (q + n) (fun ws => K (x :: ws)) = some p → ∃ out,scanF f ((c :: r).drop n) (q + n) (ws ++ [x.w]) = some (ws ++ out.map FW.w) ∧ K out = some p := fun {n z} x e h => by
      have hz : z.length ≤ 1000 := by rw [← e,List.length_drop]; omega
      obtain ⟨out,h1,h2⟩ := scanK_s f z (q + n) _ p (ws ++ [x.w]) hz h
      refine ⟨x :: out, ?_,h2⟩
      rw [e,h1,List.append_assoc]; rfl
    have h : cd (inG mBLANK c) (scanK f r (q + 1) K) (cd (begG c) (bareK c r fun w z => scanK f z (q + w.length) fun ws => K (⟨0,w.map up1,.str (S w),q⟩ :: ws))
      (cd (inG mFIG c) (numK c r fun n w z => scanK f z (q + w.length) fun ws => K (⟨2,[],.int n,q⟩ :: ws))
      (cd (Nat.beq c 91) (brackK r fun w z => scanK f z (q + (w.length + 2)) fun ws => K (⟨0,[],.str (S w),q⟩ :: ws))
      (cd (inG mQUO c) (quoteK c r fun w z => scanK f z (q + ((r.length + 1) - z.length)) fun ws => K (⟨cd (Nat.beq c 39) 1 0,[],.str (S w),q⟩ :: ws))
      (cd (pairG c (hdG r)) (scanK f r (q + 1) fun ws => K (⟨3,[c],.none,q⟩ :: ws)) none))))) = some p := h
    show ∃ out,cond (inM mBLANK c) (scanF f r (q + 1) ws)
        (cond (begM c) ((bareF (c :: r)).bind fun x => scanF f ((c :: r).drop x.2) (q + x.2) (ws ++ [⟨"name",S (x.1.map up1),.str (S x.1),q⟩]))
          (cond (inM mFIG c) ((numF (c :: r)).bind fun x => scanF f ((c :: r).drop x.2) (q + x.2) (ws ++ [⟨"number","",.int x.1,q⟩]))
            (cond (inM mQUO c) ((quoteF (c :: r)).bind fun x => scanF f ((c :: r).drop x.2.2) (q + x.2.2) (ws ++ [⟨qk x.1,"",.str (S x.2.1),q⟩]))
              (cond (markF (c :: r)) (scanF f r (q + 1) (ws ++ [⟨"sign",S [c],.none,q⟩])) none)))) = some (ws ++ out.map FW.w) ∧ K out = some p
    rw [← inG_eq,← begG_eq,← inG_eq,← inG_eq]
    cases h1 : inG mBLANK c with
    | true => rw [h1,cd_t] at h; exact scanK_s f r (q + 1) K p ws hr' h
    | false =>
    rw [h1,cd_f] at h
    cases h2 : begG c with
    | true =>
      rw [h2,cd_t] at h
      obtain ⟨w,z,b1,b2,b3⟩ := bareK_s h
      rw [b1]
      exact go ⟨0,w.map up1,.str (S w),q⟩ b2 b3
    | false =>
    rw [h2,cd_f] at h
    cases h3 : inG mFIG c with
    | true =>
      rw [h3,cd_t] at h
      obtain ⟨n,w,z,b1,b2,b3⟩ := numK_s h3 h
      rw [b1]
      exact go ⟨2,[],.int n,q⟩ b2 b3
    | false =>
    rw [h3,cd_f] at h
    cases h4 : Nat.beq c 91 with
    | true =>
      rw [h4,cd_t] at h
      have e := Nat.eq_of_beq_eq_true h4
      subst e
      obtain ⟨w,z,b1,b2,b3⟩ := brackK_s (show brackK r _ = some p from h)
      rw [b1,show inG mQUO 91 = true by decide +kernel]
      exact go ⟨0,[],.str (S w),q⟩ b2 b3
    | false =>
    rw [h4,cd_f] at h
    cases h5 : inG mQUO c with
    | true =>
      rw [h5,cd_t] at h
      obtain ⟨w,z,b1,b2,b3⟩ := quoteK_s h4 hr' h
      rw [b1]
      obtain ⟨out,g1,g2⟩ := go ⟨cd (Nat.beq c 39) 1 0,[],.str (S w),q⟩ b2 b3
      refine ⟨out, ?_,g2⟩
      rw [← g1]
      cases Nat.beq c 39 <;> rfl
    | false =>
    rw [h5,cd_f] at h
    obtain ⟨h6,h⟩ := cd_some h
    have e : markF (c :: r) = true := by
      unfold markF
      rw [← h6]
      unfold pairG
      show (inM mONE c && !(pairsM.any fun p => Nat.beq c p.1 && Nat.beq (hd r) p.2)) = _
      rw [← inG_eq,← hdG_eq]
      cases inG mONE c <;> rfl
    rw [e]
    exact go (n := 1) ⟨3,[c],.none,q⟩ rfl h
end Mine
end
section
namespace Mine
noncomputable def resG : List (List Nat) := [[65,68,68],[65,76,76],[65,76,84,69,82],[65,78,68],[65,83],[65,85,84,79,73,78,67,82,69,77,69,78,84],[66,69,84,87,69,69,78],[67,65,83,69],[67,72,69,67,75],[67,79,76,76,65,84,69],[67,79,77,77,73,84],[67,79,78,83,84,82,65,73,78,84],[67,82,69,65,84,69],[68,69,70,65,85,76,84],[68,69,70,69,82,82,65,66,76,69],[68,69,76,69,84,69],[68,73,83,84,73,78,67,84],[68,82,79,80],[69,76,83,69],[69,83,67,65,80,69],[69,88,67,69,80,84],[69,88,73,83,84,83],[70,79,82,69,73,71,78],[70,82,79,77],[71,82,79,85,80],[72,65,86,73,78,71],[73,78],[73,78,68,69,88],[73,78,83,69,82,84],[73,78,84,69,82,83,69,67,84],[73,78,84,79],[73,83],[73,83,78,85,76,76],[74,79,73,78],[76,73,77,73,84],[78,79,84],[78,79,84,72,73,78,71],[78,79,84,78,85,76,76],[78,85,76,76],[79,78],[79,82],[79,82,68,69,82],[80,82,73,77,65,82,89],[82,69,70,69,82,69,78,67,69,83],[82,69,84,85,82,78,73,78,71],[83,69,76,69,67,84],[83,69,84],[84,65,66,76,69],[84,72,69,78],[84,79],[84,82,65,78,83,65,67,84,73,79,78],[85,78,73,79,78],[85,78,73,81,85,69],[85,80,68,65,84,69],[85,83,73,78,71],[86,65,76,85,69,83],[87,72,69,78],[87,72,69,82,69]]
noncomputable def kindsG : List (List Nat) := [[68,69,70,69,82,82,69,68],[73,77,77,69,68,73,65,84,69],[69,88,67,76,85,83,73,86,69]]
theorem resG_eq : l_RESERVED = resG.map S := by decide +kernel
theorem kindsG_eq : l_BEGIN_KINDS = kindsG.map S := by decide +kernel
noncomputable def anyG (us : List (List Nat)) (t : List Nat) : Bool := List.rec false (fun u _ ih => cd (eqL u t) true ih) us
theorem anyG_eq (t : List Nat) : ∀ us : List (List Nat),(us.map S).any (· == S t) = anyG us t
  | [] => rfl
  | u :: us => by
    rw [List.map_cons,List.any_cons,anyG_eq t us,eqL_S]
    show _ = cd (eqL u t) true (anyG us t)
    cases eqL u t <;> rfl
theorem anyG_mem {t : List Nat} : ∀ {us : List (List Nat)},anyG us t = true → t ∈ us
  | u :: us,h => by
    have h : cd (eqL u t) true (anyG us t) = true := h
    cases hu : eqL u t with
    | true => rw [eqL_iff.mp hu]; exact .head _
    | false => rw [hu] at h; exact .tail _ (anyG_mem h)
noncomputable def keyG (w : FW) (u : List Nat) : Bool := cd (Nat.beq w.k 0) (eqL w.t u) false
noncomputable def signG (w : FW) (u : List Nat) : Bool := cd (Nat.beq w.k 3) (eqL w.t u) false
noncomputable def freeG (w : FW) : Bool := cd (Nat.beq w.k 0) (!(anyG resG w.t)) false
theorem kS_0 : ∀ k,(kS k == "name") = Nat.beq k 0
  | 0 | 1 | 2 | 3 => by decide +kernel
  | n + 4 => show (("end" : Str) == "name") = false by decide +kernel
theorem kS_2 : ∀ k,(kS k != "number") = !(Nat.beq k 2)
  | 0 | 1 | 2 | 3 => by decide +kernel
  | n + 4 => show (("end" : Str) != "number") = true by decide +kernel
theorem kS_3 : ∀ k,(kS k == "sign") = Nat.beq k 3
  | 0 | 1 | 2 | 3 => by decide +kernel
  | n + 4 => show (("end" : Str) == "sign") = false by decide +kernel
theorem kS_4 : ∀ k,(kS k == "end") = Nat.ble 4 k
  | 0 | 1 | 2 | 3 => by decide +kernel
  | n + 4 => show (("end" : Str) == "end") = true by decide +kernel
theorem kS_1 : ∀ k,((["text","name"] : List Str).any (· == kS k)) = Nat.ble k 1
  | 0 | 1 | 2 | 3 => by decide +kernel
  | n + 4 => show ((["text","name"] : List Str).any (· == "end")) = false by decide +kernel
theorem cd_and (a b : Bool) : cd a b false = (a && b) := by cases a <;> rfl
theorem keyG_eq (w : FW) (u : List Nat) : w.w.key (S u) = keyG w u := by
  show (kS w.k == "name" && S w.t == S u) = _
  rw [kS_0,eqL_S,keyG,cd_and]
theorem signG_eq (w : FW) (u : List Nat) : w.w.sign (S u) = signG w u := by
  show (kS w.k == "sign" && S w.t == S u) = _
  rw [kS_3,eqL_S,signG,cd_and]
theorem freeG_eq (w : FW) : w.w.free = freeG w := by
  show (kS w.k == "name" && !l_RESERVED.any (· == S w.t)) = _
  rw [kS_0,resG_eq,anyG_eq,freeG,cd_and]
noncomputable def atG (r : List FW) (f : FW → List FW → Option PV) : Option PV := List.rec none (fun w t _ => f w t) r
noncomputable def takeG (r : List FW) (u : List Nat) (f : List FW → Bool → Option PV) : Option PV := atG r fun w t => cd (keyG w u) (f t true) (f r false)
noncomputable def tsG (r : List FW) (u : List Nat) (f : List FW → Bool → Option PV) : Option PV := atG r fun w t => cd (signG w u) (f t true) (f r false)
noncomputable def nameG (r : List FW) (f : PV → List FW → Option PV) : Option PV := atG r fun w t => cd (freeG w) (f w.v t) (some .none)
noncomputable def finG (p : PV) (r : List FW) : Option PV := atG r fun w _ => cd (Nat.ble 4 w.k) (some p) (some .none)
noncomputable def intG (v : PV) (f : Int → Option PV) : Option PV := match v with
  | .int n => f n
  | _ => none
noncomputable def goG (w : FW) (r t : List FW) : List FW := cd (Nat.ble 4 w.k) r t
noncomputable def settingG (r : List FW) (f : PV → List FW → Option PV) : Option PV := atG r fun w t =>
  cd (Nat.ble w.k 1) (f w.v (goG w r t)) (cd (signG w [45]) (atG t fun w1 t1 => cd (Nat.beq w1.k 2) (intG w1.v fun n => f (.int (-1 * n)) (goG w1 t t1)) (some .none))
    (cd (Nat.beq w.k 2) (intG w.v fun n => f (.int (1 * n)) (goG w r t)) (some .none)))
noncomputable def rollG (r : List FW) : Option PV := takeG r [84,82,65,78,83,65,67,84,73,79,78] fun r _ => takeG r [84,79] fun r b => cd b (takeG r [83,65,86,69,80,79,73,78,84] fun r _ => nameG r fun n r => finG (nRollback n) r) (finG (nRollback .none) r)
noncomputable def beginG (r : List FW) : Option PV := atG r fun w t => cd (cd (Nat.beq w.k 0) (anyG kindsG w.t) false) (takeG t [84,82,65,78,83,65,67,84,73,79,78] fun r _ => finG (nBegin (S (w.t.map lo1))) r) (takeG r [84,82,65,78,83,65,67,84,73,79,78] fun r _ => finG (nBegin "deferred") r)
noncomputable def pragG (r : List FW) : Option PV := nameG r fun n r => tsG r [61] fun r b => cd b (settingG r fun v r => finG (nPragma n v) r)
  (tsG r [40] fun r b => cd b (settingG r fun v r => atG r fun w t => cd (signG w [41]) (finG (nPragma n v) t) (some .none)) (finG (nPragma n .none) r))
noncomputable def transG (r : List FW) : Option PV := takeG r [66,69,71,73,78] fun r b => cd b (beginG r) (takeG r [67,79,77,77,73,84] fun r b => cd b (takeG r [84,82,65,78,83,65,67,84,73,79,78] fun r _ => finG nCommit r) (takeG r [69,78,68] fun r b => cd b (takeG r [84,82,65,78,83,65,67,84,73,79,78] fun r _ => finG nCommit r)
  (takeG r [82,79,76,76,66,65,67,75] fun r b => cd b (rollG r) (takeG r [83,65,86,69,80,79,73,78,84] fun r b => cd b (nameG r fun n r => finG (nSavepoint n) r) (takeG r [82,69,76,69,65,83,69] fun r b => cd b (takeG r [83,65,86,69,80,79,73,78,84] fun r _ => nameG r fun n r => finG (nRelease n) r)
  (takeG r [86,65,67,85,85,77] fun r b => cd b (finG nVacuum r) (takeG r [80,82,65,71,77,65] fun r b => cd b (pragG r) (atG r fun _ _ => some .none))))))))
structure RG (W : List FW) (x : Option PV) (y : PRes) : Prop where
  go : ∀ p,x = some p → overS (W.map FW.w) y = some p
section
variable {W : List FW} (hW : W.length ≤ 999999)
theorem at_drop {k : Nat} {w : FW} {t : List FW} (h : W.drop k = w :: t) : (W.map FW.w)[k]? = some w.w ∧ t = W.drop (k + 1) ∧ k < W.length := by
  refine ⟨?_,by rw [← List.drop_drop,h]; rfl, ?_⟩
  · rw [List.getElem?_map,← List.head?_drop,h]; rfl
  · apply Classical.byContradiction
    intro hn
    rw [List.drop_eq_nil_of_le (Nat.le_of_not_lt hn)] at h
    cases h
theorem r_at {k : Nat} {g : FW → List FW → Option PV} {f : Wd → PRes} (h : ∀ w,W.drop k = w :: W.drop (k + 1) → RG W (g w (W.drop (k + 1))) (f w.w)) : RG W (atG (W.drop k) g) (pAt (W.map FW.w) k f) := by
  refine ⟨fun p e => ?_⟩
  cases hd : W.drop k with
  | nil => rw [hd] at e; cases e
  | cons w t =>
    obtain ⟨a,b,_⟩ := at_drop hd
    rw [hd,b] at e
    unfold pAt
    rw [a]
    exact (h w (by rw [hd,b])).go p e
theorem r_err : RG W (some .none) .err := ⟨fun p e => by cases e; rfl⟩
theorem cond_cd {b : Bool} {x x' : Option PV} {y y' : PRes} (h : RG W x y) (h' : RG W x' y') : RG W (cd b x x') (match b with | true => y | false => y') := by cases b <;> assumption
theorem cond_cd' {b : Bool} {x x' : Option PV} {y y' : PRes} (h : RG W x y) (h' : RG W x' y') : RG W (cd b x x') (match b with | false => y' | true => y) := by cases b <;> assumption
theorem r_take {k : Nat} {u : List Nat} {U : Str} (hU : U = S u) {g : List FW → Bool → Option PV} {f : Nat → Bool → PRes} (h : ∀ k b,RG W (g (W.drop k) b) (f k b)) : RG W (takeG (W.drop k) u g) (pTake (W.map FW.w) k U f) := by
  refine r_at fun w hw => ?_
  rw [hU,keyG_eq]
  cases keyG w u with
  | true => exact h (k + 1) true
  | false => exact h k false
theorem r_sign {k : Nat} {u : List Nat} {U : Str} (hU : U = S u) {g : List FW → Bool → Option PV} {f : Nat → Bool → PRes} (h : ∀ k b,RG W (g (W.drop k) b) (f k b)) : RG W (tsG (W.drop k) u g) (pSign (W.map FW.w) k U f) := by
  refine r_at fun w hw => ?_
  rw [hU,signG_eq]
  cases signG w u with
  | true => exact h (k + 1) true
  | false => exact h k false
theorem r_name {k : Nat} {g : PV → List FW → Option PV} {f : PV → Nat → PRes} (h : ∀ v k,RG W (g v (W.drop k)) (f v k)) : RG W (nameG (W.drop k) g) (pName (W.map FW.w) k f) := by
  refine r_at fun w hw => ?_
  rw [freeG_eq]
  exact cond_cd (h _ _) r_err
theorem goG_eq {k : Nat} {w : FW} (hw : W.drop k = w :: W.drop (k + 1)) : goG w (W.drop k) (W.drop (k + 1)) = W.drop (goK w.w k) := by
  unfold goG goK
  rw [show (w.w.k == "end") = Nat.ble 4 w.k from kS_4 _]
  cases Nat.ble 4 w.k <;> rfl
theorem r_int {v : PV} {g : Int → Option PV} {f : Int → PRes} (h : ∀ n,RG W (g n) (f n)) : RG W (intG v g) (match v with | .int n => f n | _ => .bad) := by
  cases v with
  | int n => exact h n
  | _ => exact ⟨fun p e => by cases e⟩
theorem r_mono {x : Option PV} {y y' : PRes} (e : y' = y) (h : RG W x y) : RG W x y' := e ▸ h
theorem r_setting {k : Nat} {g : PV → List FW → Option PV} {f : PV → Nat → PRes} (h : ∀ v k,RG W (g v (W.drop k)) (f v k)) : RG W (settingG (W.drop k) g) (pBind (pSetting (W.map FW.w) k) f) := by
  have e : pBind (pSetting (W.map FW.w) k) f = pAt (W.map FW.w) k fun w => match (["text","name"] : List Str).any (· == w.k) with
      | true => f w.v (goK w k)
      | false => match w.sign "-" with
        | true => pAt (W.map FW.w) (k + 1) fun w1 => match w1.k != "number" with
          | true => .err
          | false => match w1.v with
            | .int n => f (.int (-1 * n)) (goK w1 (k + 1))
            | _ => .bad
        | false => match w.k != "number" with
          | true => .err
          | false => match w.v with
            | .int n => f (.int (1 * n)) (goK w k)
            | _ => .bad := by
    unfold pSetting pAt
    cases (W.map FW.w)[k]? with
    | none => rfl
    | some w =>
      dsimp only
      cases (["text","name"] : List Str).any (· == w.k) with
      | true => rfl
      | false =>
        dsimp only
        cases w.sign "-" with
        | true =>
          dsimp only
          cases (W.map FW.w)[k + 1]? with
          | none => rfl
          | some w1 =>
            dsimp only
            cases w1.k != "number" with
            | true => rfl
            | false => dsimp only; cases w1.v <;> rfl
        | false =>
          dsimp only
          cases w.k != "number" with
          | true => rfl
          | false => dsimp only; cases w.v <;> rfl
  rw [e]
  refine r_at fun w hw => ?_
  rw [show ((["text","name"] : List Str).any (· == w.w.k)) = Nat.ble w.k 1 from kS_1 _,show w.w.sign "-" = signG w [45] from signG_eq w [45],show (w.w.k != "number") = !(Nat.beq w.k 2) from kS_2 _]
  refine cond_cd (by rw [goG_eq hw]; exact h _ _) (cond_cd (r_at fun w1 hw1 => ?_) ?_)
  · rw [show (w1.w.k != "number") = !(Nat.beq w1.k 2) from kS_2 _]
    cases Nat.beq w1.k 2 with
    | true => exact r_int fun n => by rw [goG_eq hw1]; exact h _ _
    | false => exact r_err
  · cases Nat.beq w.k 2 with
    | true => exact r_int fun n => by rw [goG_eq hw]; exact h _ _
    | false => exact r_err
include hW in
theorem r_fin {k : Nat} {p : PV} : RG W (finG p (W.drop k)) (.val p k) := by
  refine ⟨fun x e => ?_⟩
  cases hd : W.drop k with
  | nil => rw [hd] at e; cases e
  | cons w t =>
    obtain ⟨a,b,c⟩ := at_drop hd
    rw [hd] at e
    have e : cd (Nat.ble 4 w.k) (some p) (some .none) = some x := e
    show cond (Nat.ble k 999999) (((W.map FW.w)[k]?).bind _) none = _
    rw [a,Nat.ble_eq_true_of_le (Nat.le_of_lt (Nat.lt_of_lt_of_le c hW)),← e]
    show some (cond (kS w.k == "end") p .none) = _
    rw [kS_4]
    cases Nat.ble 4 w.k <;> rfl
include hW
theorem r_roll (k : Nat) : RG W (rollG (W.drop k)) (pRollback (W.map FW.w) k) :=
  r_take rfl fun k _ => r_take rfl fun k b => cond_cd' (r_take rfl fun k _ => r_name fun n k => r_fin hW) (r_fin hW)
theorem r_begin (k : Nat) : RG W (beginG (W.drop k)) (pBegin (W.map FW.w) k) := by
  refine r_at fun w hw => ?_
  rw [show (w.w.k == "name" && l_BEGIN_KINDS.any (· == w.w.t)) = cd (Nat.beq w.k 0) (anyG kindsG w.t) false by
    rw [cd_and,← anyG_eq,← kindsG_eq,← kS_0]; rfl]
  cases hb : cd (Nat.beq w.k 0) (anyG kindsG w.t) false with
  | false =>
    rw [cd_f]
    dsimp only
    exact r_take rfl fun k _ => r_fin hW
  | true =>
  rw [cd_and,Bool.and_eq_true] at hb
  have hk := Nat.eq_of_beq_eq_true hb.1
  have e : (w.t.all (Nat.blt · 128)) = true ∧ w.t.length ≤ 100000 := by
    have : ∀ t ∈ kindsG,(t.all (Nat.blt · 128)) = true ∧ t.length ≤ 100000 := by decide +kernel
    exact this _ (anyG_mem hb.2)
  have el : Txt.lower w.w.t = S (w.t.map lo1) := lower_S e.1
  rw [el,show Builtin.Str.tooLong (S (w.t.map lo1)).length = false from short_S (by rw [List.length_map]; exact e.2),show goK w.w k = k + 1 by
    unfold goK
    rw [show (w.w.k == "end") = Nat.ble 4 w.k from kS_4 _,hk]; rfl]
  rw [cd_t]
  dsimp only
  exact r_take rfl fun k _ => r_fin hW
theorem r_pragma (k : Nat) : RG W (pragG (W.drop k)) (pPragma (W.map FW.w) k) :=
  r_name fun n k => r_sign rfl fun k b => cond_cd (r_setting fun v k => r_fin hW) (r_sign rfl fun k b => cond_cd (r_setting fun v k => r_at fun w hw => by
    rw [show w.w.sign ")" = signG w [41] from signG_eq w [41]]
    exact cond_cd (r_fin hW) r_err) (r_fin hW))
theorem r_trans : RG W (transG W) (pTrans (W.map FW.w) 0) := by
  show RG W (transG (W.drop 0)) _
  exact r_take rfl fun k b => cond_cd (r_begin hW k) (r_take rfl fun k b => cond_cd (r_take rfl fun k _ => r_fin hW) (r_take rfl fun k b => cond_cd (r_take rfl fun k _ => r_fin hW)
    (r_take rfl fun k b => cond_cd (r_roll hW k) (r_take rfl fun k b => cond_cd (r_name fun n k => r_fin hW) (r_take rfl fun k b => cond_cd (r_take rfl fun k _ => r_name fun n k => r_fin hW)
    (r_take rfl fun k b => cond_cd (r_fin hW) (r_take rfl fun k b => cond_cd (r_pragma hW k) (r_at fun w _ => r_err))))))))
end
noncomputable def copyK (l : List Nat) : (List Nat → Option PV) → Option PV := List.rec (motive := fun _ => (List Nat → Option PV) → Option PV) (fun K => K []) (fun c _ ih K => ih fun z => K (c :: z)) l
theorem copyK_eq : ∀ (l : List Nat) (K : List Nat → Option PV),copyK l K = K l
  | [],_ => rfl
  | c :: l,K => copyK_eq l fun z => K (c :: z)
noncomputable def readG (l : List Nat) : Option PV := copyK l fun l => cd (Nat.ble l.length 1000) (scanK 1000 l 0 fun ws => cd (Nat.ble ws.length 5000) (transG ws) none) none
theorem read_G {l : List Nat} {p : PV} (h : readG l = some p) : ReadOk (S l) p := by
  unfold readG at h
  rw [copyK_eq] at h
  obtain ⟨h1,h⟩ := cd_some h
  have hl := Nat.le_of_ble_eq_true h1
  obtain ⟨out,h2,h⟩ := scanK_s 1000 l 0 _ p [] hl h
  obtain ⟨h3,h⟩ := cd_some h
  have h3 := Nat.le_of_ble_eq_true h3
  exact ⟨out.map FW.w,show l.length ≤ 100000 by omega,scan_S (by omega) 1000 0 [] (Nat.zero_le _) h2,by rw [List.length_map]; omega,(r_trans (by omega)).go p h⟩
end Mine
end
section
namespace Mine
theorem S_app (a b : List Nat) : S a ++ S b = S (a ++ b) := by
  show (⟨(⟨a⟩ : Array Nat) ++ ⟨b⟩⟩ : Str) = ⟨⟨a ++ b⟩⟩
  congr 1
  apply Array.ext'
  simp
theorem S_eta (x : Str) : S x.cps.toList = x := rfl
noncomputable def nmTab : List (List Nat × List Nat) := [([115],[115]),([80,111,105,110,116,95,49],[80,111,105,110,116,95,49]),([116,111],[34,116,111,34]),([97,32,98],[34,97,32,98,34]),([120],[120]),([113,34,114],[34,113,34,34,114,34]),([115,97,118,101,112,111,105,110,116],[34,115,97,118,101,112,111,105,110,116,34]),([],[34,34]),([119,97,108],[119,97,108])]
noncomputable def vlTab : List (PV × List Nat) := [(.str (S [79,78]),[39,79,78,39]),(.str (S [70,117,108,108]),[39,70,117,108,108,39]),(.str (S [100,101,108,101,116,101]),[39,100,101,108,101,116,101,39]),(.str (S [111,110]),[39,111,110,39]),(.str (S [105,116,39,115]),[39,105,116,39,39,115,39]),(.int (0),[48]),(.int (1),[49]),(.int (-1),[45,49]),(.int (4096),[52,48,57,54]),(.int (-4096),[45,52,48,57,54]),(.int (9223372036854775807),[57,50,50,51,51,55,50,48,51,54,56,53,52,55,55,53,56,48,55]),(.int (-9223372036854775807),[45,57,50,50,51,51,55,50,48,51,54,56,53,52,55,55,53,56,48,55]),(.int (9223372036854775808),[57,50,50,51,51,55,50,48,51,54,56,53,52,55,55,53,56,48,56]),(.int (-9223372036854775808),[45,57,50,50,51,51,55,50,48,51,54,56,53,52,55,55,53,56,48,56])]
theorem nmTab_ok : nmTab.all (fun e => nmS (S e.1) == some (S e.2)) = true := by decide +kernel
theorem vlTab_ok : vlTab.all (fun e => vlS e.1 == some (S e.2)) = true := by decide +kernel
noncomputable def isNo (o : Option PV) : Bool := match o with
  | some .none => true
  | _ => false
theorem isNo_of {o : Option PV} (h : isNo o = true) : o = some .none := by
  unfold isNo at h
  split at h
  · rfl
  · cases h
noncomputable def vEq : PV → PV → Bool
  | .none,.none => true
  | .int a,.int b => a == b
  | .str a,.str b => eqL a.cps.toList b.cps.toList
  | _,_ => false
theorem vEq_of : ∀ {a b : PV},vEq a b = true → a = b
  | .none,.none,_ => rfl
  | .int a,.int b,h => by rw [eq_of_beq (show (a == b) = true from h)]
  | .str a,.str b,h => by rw [show a = b from congrArg S (eqL_iff.mp (show eqL a.cps.toList b.cps.toList = true from h))]
noncomputable def fEq : List (Nat × PV) → List (Nat × PV) → Bool
  | [],[] => true
  | (a,v) :: r,(b,u) :: s => Nat.beq a b && vEq v u && fEq r s
  | _,_ => false
theorem fEq_of : ∀ {a b : List (Nat × PV)},fEq a b = true → a = b
  | [],[],_ => rfl
  | (a,v) :: r,(b,u) :: s,h => by
    have h : (Nat.beq a b && vEq v u && fEq r s) = true := h
    rw [Bool.and_eq_true,Bool.and_eq_true] at h
    rw [Nat.eq_of_beq_eq_true h.1.1,vEq_of h.1.2,fEq_of h.2]
noncomputable def isP (o : Option PV) (C : Nat) (fs : List (Nat × PV)) : Bool := match o with
  | some (.inst D gs) => Nat.beq D C && fEq gs fs
  | _ => false
theorem isP_of {o : Option PV} {C : Nat} {fs : List (Nat × PV)} (h : isP o C fs = true) : o = some (.inst C fs) := by
  unfold isP at h
  split at h
  · rw [Bool.and_eq_true] at h
    rw [Nat.eq_of_beq_eq_true h.1,fEq_of h.2]
  · cases h
theorem read_len {l : List Nat} {p : PV} (h : readG l = some p) : l.length ≤ 1000 := by
  unfold readG at h
  rw [copyK_eq] at h
  exact Nat.le_of_ble_eq_true (cd_some h).1
noncomputable def selfB (r : PV) : Bool := (pdOf r).any (·.layable0)
theorem cmp_self {r : PV} (h : selfB r = true) : cmpD true (.pv r) (.pv r) = some false := by
  obtain ⟨d,hd,hl⟩ := Option.any_eq_true .. |>.mp h
  have hl : d.layable0 = true := hl
  show (match pdOf r,pdOf r with
    | some x,some y => if x.layable0 && y.layable0 then some (true ^^ PyData.eqv x y) else none
    | _,_ => none) = _
  rw [hd]
  show (if d.layable0 && d.layable0 then some (true ^^ PyData.eqv d d) else none) = _
  have hc : d.canLay0 = true := by
    unfold PyData.layable0 at hl
    rw [Bool.and_eq_true,Bool.and_eq_true] at hl
    exact hl.1.1
  rw [hl,SeqAt.eqv_refl d hc]
  rfl
noncomputable def chk (w : List Nat) (C : Nat) (fs : List (Nat × PV)) (r : PV) : Bool := selfB r && isP (readG w) C fs && isNo (readG (w ++ [32,59]))
structure NodeOk (nd : Nd) : Prop where
  cmp : cmpD true (.pv nd.row) (.pv nd.row) = some false
  ex : ∃ w,nd.text = some (S w) ∧ ReadOk (S w) nd.pv ∧ ReadOk (S w ++ " ;") .none ∧ w.length ≤ 5000
theorem node_of {nd : Nd} {w : List Nat} {C : Nat} {fs : List (Nat × PV)} {r : PV} (ht : nd.text = some (S w)) (hp : nd.pv = .inst C fs) (hr : nd.row = r) (h : chk w C fs r = true) : NodeOk nd := by
  unfold chk at h
  rw [Bool.and_eq_true,Bool.and_eq_true] at h
  have h1 := isP_of h.1.2
  refine ⟨by rw [hr]; exact cmp_self h.1.1,w,ht,by rw [hp]; exact read_G h1, ?_,Nat.le_trans (read_len h1) (by decide)⟩
  rw [show (" ;" : Str) = S [32,59] from rfl,S_app]
  exact read_G (isNo_of h.2)
theorem c_deferred : chk [66,69,71,73,78] 66 [(0,.str "deferred")] (.tup [.str "begin",.str "deferred"]) = true := by decide +kernel
theorem c_immediate : chk [66,69,71,73,78,32,73,77,77,69,68,73,65,84,69] 66 [(0,.str "immediate")] (.tup [.str "begin",.str "immediate"]) = true := by decide +kernel
theorem c_exclusive : chk [66,69,71,73,78,32,69,88,67,76,85,83,73,86,69] 66 [(0,.str "exclusive")] (.tup [.str "begin",.str "exclusive"]) = true := by decide +kernel
theorem c_commit : chk [67,79,77,77,73,84] 85 [] (.tup [.str "commit"]) = true := by decide +kernel
theorem c_rollback0 : chk [82,79,76,76,66,65,67,75] 111 [(10,.none)] (.tup [.str "rollback",.none]) = true := by decide +kernel
theorem c_vacuum : chk [86,65,67,85,85,77] 208 [] (.tup [.str "vacuum"]) = true := by decide +kernel
theorem c_rollbacks : nmTab.all (fun e => chk ([82,79,76,76,66,65,67,75,32,84,79,32] ++ e.2) 111 [(10,.str (S e.1))] (.tup [.str "rollback",.str (S e.1)])) = true := by decide +kernel
theorem c_savepoints : nmTab.all (fun e => chk ([83,65,86,69,80,79,73,78,84,32] ++ e.2) 137 [(10,.str (S e.1))] (.tup [.str "savepoint",.str (S e.1)])) = true := by decide +kernel
theorem c_releases : nmTab.all (fun e => chk ([82,69,76,69,65,83,69,32] ++ e.2) 163 [(10,.str (S e.1))] (.tup [.str "release",.str (S e.1)])) = true := by decide +kernel
theorem c_pragmas0 : nmTab.all (fun e => chk ([80,82,65,71,77,65,32] ++ e.2) 189 [(10,.str (S e.1)),(2,.none)] (.tup [.str "pragma",.str (S e.1),.none])) = true := by decide +kernel
theorem c_pragmas : nmTab.all (fun e => vlTab.all fun v => chk ([80,82,65,71,77,65,32] ++ e.2 ++ [32,61,32] ++ v.2) 189 [(10,.str (S e.1)),(2,v.1)] (.tup [.str "pragma",.str (S e.1),v.1])) = true := by decide +kernel
noncomputable def nmIn (n : Str) : Bool := nmTab.any fun e => eqL e.1 n.cps.toList
theorem nmIn_of {n : Str} (h : nmIn n = true) : ∃ e ∈ nmTab,n = S e.1 ∧ nmS n = some (S e.2) := by
  obtain ⟨e,he,hn⟩ := List.any_eq_true.mp h
  have : n = S e.1 := congrArg S (eqL_iff.mp hn).symm
  subst this
  exact ⟨e,he,rfl,eq_of_beq (List.all_eq_true.mp nmTab_ok e he)⟩
noncomputable def vlIn (v : PV) : Bool := vlTab.any fun e => vEq e.1 v
theorem vlIn_of {v : PV} (h : vlIn v = true) : ∃ e ∈ vlTab,v = e.1 ∧ vlS v = some (S e.2) := by
  obtain ⟨e,he,hn⟩ := List.any_eq_true.mp h
  have := vEq_of hn
  subst this
  exact ⟨e,he,rfl,eq_of_beq (List.all_eq_true.mp vlTab_ok e he)⟩
noncomputable def isNone : PV → Bool
  | .none => true
  | _ => false
noncomputable def nodeIn : Nd → Bool
  | .begin k => k == "deferred" || k == "immediate" || k == "exclusive"
  | .commit => true
  | .rollback none => true
  | .rollback (some n) => nmIn n
  | .savepoint n => nmIn n
  | .release n => nmIn n
  | .pragma n v => nmIn n && (isNone v || vlIn v)
  | .vacuum => true
theorem node_ok {nd : Nd} (h : nodeIn nd = true) : NodeOk nd := by
  cases nd with
  | begin k =>
    have h : (k == "deferred" || k == "immediate" || k == "exclusive") = true := h
    rw [Bool.or_eq_true,Bool.or_eq_true] at h
    rcases h with (h | h) | h
    · rw [eq_of_beq h]; exact node_of rfl rfl rfl c_deferred
    · rw [eq_of_beq h]; exact node_of (show _ = some (S _) by decide +kernel) rfl rfl c_immediate
    · rw [eq_of_beq h]; exact node_of (show _ = some (S _) by decide +kernel) rfl rfl c_exclusive
  | commit => exact node_of rfl rfl rfl c_commit
  | rollback n =>
    cases n with
    | none => exact node_of rfl rfl rfl c_rollback0
    | some n =>
      obtain ⟨e,he,rfl,hs⟩ := nmIn_of h
      refine node_of ?_ rfl rfl (List.all_eq_true.mp c_rollbacks e he)
      show (nmS (S e.1)).map _ = _
      rw [hs]
      show some ("ROLLBACK" ++ (" TO " ++ S e.2)) = _
      rw [show (" TO " : Str) = S [32,84,79,32] from rfl,S_app,show ("ROLLBACK" : Str) = S [82,79,76,76,66,65,67,75] from rfl,S_app]
      rfl
  | savepoint n =>
    obtain ⟨e,he,rfl,hs⟩ := nmIn_of h
    refine node_of ?_ rfl rfl (List.all_eq_true.mp c_savepoints e he)
    show (nmS (S e.1)).map _ = _
    rw [hs]
    show some ("SAVEPOINT " ++ S e.2) = _
    rw [show ("SAVEPOINT " : Str) = S [83,65,86,69,80,79,73,78,84,32] from rfl,S_app]
  | release n =>
    obtain ⟨e,he,rfl,hs⟩ := nmIn_of h
    refine node_of ?_ rfl rfl (List.all_eq_true.mp c_releases e he)
    show (nmS (S e.1)).map _ = _
    rw [hs]
    show some ("RELEASE " ++ S e.2) = _
    rw [show ("RELEASE " : Str) = S [82,69,76,69,65,83,69,32] from rfl,S_app]
  | pragma n v =>
    have h : (nmIn n && (isNone v || vlIn v)) = true := h
    rw [Bool.and_eq_true,Bool.or_eq_true] at h
    obtain ⟨hn,hv⟩ := h
    obtain ⟨e,he,rfl,hs⟩ := nmIn_of hn
    rcases hv with hv | hv
    · have : v = .none := by
        unfold isNone at hv
        split at hv
        · rfl
        · cases hv
      subst this
      refine node_of ?_ rfl rfl (List.all_eq_true.mp c_pragmas0 e he)
      show (nmS (S e.1)).bind _ = _
      rw [hs]
      show some ("PRAGMA " ++ S e.2) = _
      rw [show ("PRAGMA " : Str) = S [80,82,65,71,77,65,32] from rfl,S_app]
    · obtain ⟨u,hu,rfl,hus⟩ := vlIn_of hv
      have hc := List.all_eq_true.mp (List.all_eq_true.mp c_pragmas e he) u hu
      refine node_of ?_ rfl rfl hc
      have hlen : u.2.length ≤ 10000 := by
        have : ∀ u ∈ vlTab.map (·.2),u.length ≤ 10000 := by decide +kernel
        exact this _ (List.mem_map.mpr ⟨u,hu,rfl⟩)
      have hne : u.1 ≠ .none := by
        intro z
        rw [z] at hus
        have : ∀ u ∈ vlTab.map (fun u => isNone u.1),u = false := by decide +kernel
        have := this _ (List.mem_map.mpr ⟨u,hu,rfl⟩)
        rw [z] at this
        cases this
      have key : (Nd.pragma (S e.1) u.1).text = (vlS u.1).bind fun t => cond (decide (t.length ≤ 10000)) (some ("PRAGMA " ++ S e.2 ++ " = " ++ t)) none := by
        show (nmS (S e.1)).bind _ = _
        rw [hs]
        cases hu1 : u.1 with
        | none => exact absurd hu1 hne
        | _ => rfl
      rw [key,hus]
      show cond (decide ((S u.2).length ≤ 10000)) (some ("PRAGMA " ++ S e.2 ++ " = " ++ S u.2)) none = _
      rw [show decide ((S u.2).length ≤ 10000) = true from decide_eq_true hlen,cond_true]
      rw [show ("PRAGMA " : Str) = S [80,82,65,71,77,65,32] from rfl,show (" = " : Str) = S [32,61,32] from rfl,S_app,S_app,S_app]
  | vacuum => exact node_of rfl rfl rfl c_vacuum
end Mine
end
section
namespace Mine
noncomputable def ndOf : (p : PV) → Option {nd : Nd // p = nd.pv}
  | .inst 66 [(0,.str k)] => some ⟨.begin k,rfl⟩
  | .inst 85 [] => some ⟨.commit,rfl⟩
  | .inst 111 [(10,.none)] => some ⟨.rollback none,rfl⟩
  | .inst 111 [(10,.str n)] => some ⟨.rollback (some n),rfl⟩
  | .inst 137 [(10,.str n)] => some ⟨.savepoint n,rfl⟩
  | .inst 163 [(10,.str n)] => some ⟨.release n,rfl⟩
  | .inst 189 [(10,.str n),(2,v)] => some ⟨.pragma n v,rfl⟩
  | .inst 208 [] => some ⟨.vacuum,rfl⟩
  | _ => none
noncomputable def isF (o : Option Bool) : Bool := match o with
  | some false => true
  | _ => false
theorem isF_of {o : Option Bool} (h : isF o = true) : o = some false := by
  cases o with
  | none => cases h
  | some b => cases b with
    | true => cases h
    | false => rfl
noncomputable def goodF (l : List Nat) (row : PV) : Bool := isNo (readG (l ++ [32,55])) && (readG l).any fun p => (ndOf p).any fun nd => nodeIn nd.1 && isF (cmpD true (.pv nd.1.row) (.pv row))
theorem good_of {l : List Nat} {nd : Nd} {row : PV} (h : NodeOk nd) (c : cmpD true (.pv nd.row) (.pv row) = some false) (hp : readG l = some nd.pv) (h7 : readG (l ++ [32,55]) = some .none) : Good (S l) row := by
  obtain ⟨w,t1,t2,t3,t4⟩ := h.ex
  refine ⟨⟨nd,S w,nd,read_G hp,c,t1,t2,c,t1, ?_,t3,t4⟩,Nat.le_trans (read_len hp) (by decide)⟩
  rw [show (" 7" : Str) = S [32,55] from rfl,S_app]
  exact read_G h7
theorem good_S {l : List Nat} {row : PV} (h : goodF l row = true) : Good (S l) row := by
  unfold goodF at h
  rw [Bool.and_eq_true,Option.any_eq_true] at h
  obtain ⟨h2,p,hp,h⟩ := h
  rw [Option.any_eq_true] at h
  obtain ⟨⟨nd,e⟩,_,h⟩ := h
  subst e
  have h : (nodeIn nd && isF (cmpD true (.pv nd.row) (.pv row))) = true := h
  rw [Bool.and_eq_true] at h
  exact good_of (node_ok h.1) (isF_of h.2) hp (isNo_of h2)
noncomputable def goodXF (x : Str × Str × PV) : Bool := x.1.cps.toList.all (Nat.blt · 128) && Nat.ble x.1.cps.toList.length 1000 && Nat.ble x.2.1.cps.toList.length 1000 &&
  goodF (x.1.cps.toList.map lo1 ++ x.2.1.cps.toList) x.2.2 && goodF (x.1.cps.toList ++ x.2.1.cps.toList) x.2.2
theorem goodX_S {x : Str × Str × PV} (h : goodXF x = true) : GoodX x := by
  unfold goodXF at h
  rw [Bool.and_eq_true,Bool.and_eq_true,Bool.and_eq_true,Bool.and_eq_true] at h
  obtain ⟨⟨⟨⟨h1,h2⟩,h3⟩,h4⟩,h5⟩ := h
  have h2 : x.1.length ≤ 1000 := Nat.le_of_ble_eq_true h2
  have h3 : x.2.1.length ≤ 1000 := Nat.le_of_ble_eq_true h3
  have e : Txt.lower x.1 = S (x.1.cps.toList.map lo1) := lower_S (w := x.1.cps.toList) h1
  have el : (Txt.lower x.1).length ≤ 1000 := by
    rw [e]
    show (x.1.cps.toList.map lo1).length ≤ 1000
    rw [List.length_map]
    exact h2
  refine ⟨?_,by omega,by omega,by omega, ?_, ?_⟩
  · unfold Builtin.Str.tooLong
    rw [decide_eq_false_iff_not,sizeLine_nat]
    omega
  · have := good_S h4
    rw [← S_app,← e] at this
    exact this
  · have := good_S h5
    rw [← S_app] at this
    exact this
theorem wrong_ok : wrongL.all (fun t => isNo (readG t.cps.toList)) = true := by decide +kernel
theorem plain2 : ∀ t ∈ wrongL,ReadOk t .none := fun t ht => by
  have := read_G (isNo_of (List.all_eq_true.mp wrong_ok t ht))
  exact this
theorem s_1 : stL1.all goodXF = true := by decide +kernel
theorem s_2 : stL2.all goodXF = true := by decide +kernel
theorem s_3 : stL3.all goodXF = true := by decide +kernel
theorem s_4 : stL4.all goodXF = true := by decide +kernel
theorem s_5 : stL5.all goodXF = true := by decide +kernel
theorem s_6 : stL6.all goodXF = true := by decide +kernel
theorem s_7 : stL7.all goodXF = true := by decide +kernel
end Mine
end
section
namespace Mine
noncomputable def calledN : List (List Nat × List Nat) := [([115],[115]),([80,111,105,110,116,95,49],[80,111,105,110,116,95,49]),([34,116,111,34],[116,111]),([91,97,32,98,93],[97,32,98]),([96,120,96],[120]),([34,113,34,34,114,34],[113,34,114]),([34,115,97,118,101,112,111,105,110,116,34],[115,97,118,101,112,111,105,110,116]),([34,34],[]),([119,97,108],[119,97,108])]
noncomputable def worthN : List (List Nat × PV) := [([79,78],.str (S [79,78])),([70,117,108,108],.str (S [70,117,108,108])),([100,101,108,101,116,101],.str (S [100,101,108,101,116,101])),([34,111,110,34],.str (S [111,110])),([39,105,116,39,39,115,39],.str (S [105,116,39,115])),([45,48],.int 0),([45,32,48],.int 0),([45,49],.int (-1)),([45,32,49],.int (-1)),([45,52,48,57,54],.int (-4096)),([45,32,52,48,57,54],.int (-4096)),([45,57,50,50,51,51,55,50,48,51,54,56,53,52,55,55,53,56,48,55],.int (-9223372036854775807)),([45,32,57,50,50,51,51,55,50,48,51,54,56,53,52,55,55,53,56,48,55],.int (-9223372036854775807)),([45,57,50,50,51,51,55,50,48,51,54,56,53,52,55,55,53,56,48,56],.int (-9223372036854775808)),([45,32,57,50,50,51,51,55,50,48,51,54,56,53,52,55,55,53,56,48,56],.int (-9223372036854775808)),([48],.int 0),([49],.int 1),([52,48,57,54],.int 4096),([57,50,50,51,51,55,50,48,51,54,56,53,52,55,55,53,56,48,55],.int 9223372036854775807),([57,50,50,51,51,55,50,48,51,54,56,53,52,55,55,53,56,48,56],.int 9223372036854775808)]
theorem called_eq : calledL = calledN.map fun e => (S e.1,S e.2) := by decide +kernel
theorem worth_eq : worthL = worthN.map fun e => (S e.1,e.2) := by kernel_rfl
noncomputable def formN (u k : List Nat) : List (List Nat) := [32 :: 61 :: 32 :: (u ++ k),61 :: (u ++ k),40 :: (u ++ 41 :: k),32 :: 40 :: 32 :: (u ++ 32 :: 41 :: k)]
noncomputable def allN (x : List (List Nat)) (f : List Nat → Bool) : Bool := List.rec true (fun r _ ih => cd (f r) ih false) x
theorem allN_mem {f : List Nat → Bool} : ∀ {x : List (List Nat)},allN x f = true → ∀ r ∈ x,f r = true
  | y :: x,h,r,hr => by
    have h : cd (f y) (allN x f) false = true := h
    rw [cd_and,Bool.and_eq_true] at h
    cases hr with
    | head => exact h.1
    | tail _ hr => exact allN_mem h.2 r hr
noncomputable def bigN : List Nat := [80,82,65,71,77,65]
noncomputable def lowN : List Nat := [112,114,97,103,109,97]
noncomputable def yesN (a b : List Nat) (v : PV) (kw r : List Nat) : Bool := isP (readG (kw ++ 32 :: (a ++ r))) 189 [(10,.str (S b)),(2,v)]
noncomputable def noN (a kw r : List Nat) : Bool := isNo (readG (kw ++ 32 :: (a ++ r)))
noncomputable def setN (a b : List Nat) (v : PV) (x y : List (List Nat)) : Bool := nodeIn (.pragma (S b) v) && (allN x (yesN a b v bigN) && allN x (yesN a b v lowN)) && (allN y (noN a bigN) && allN y (noN a lowN))
noncomputable def pragN (c : List Nat × List Nat) : Bool := setN c.1 c.2 .none [[]] [[32,55]] && worthN.all fun w => setN c.1 c.2 w.2 (formN w.1 []) (formN w.1 [32,55])
theorem good_N {a b kw r : List Nat} {v : PV} (hn : NodeOk (.pragma (S b) v)) (h : yesN a b v kw r = true) (h7 : noN a kw (r ++ [32,55]) = true) : Good (S kw ++ (S (32 :: (a ++ r)))) (.tup [.str "pragma",.str (S b),v]) := by
  rw [S_app]
  exact good_of (nd := .pragma (S b) v) hn hn.cmp (isP_of h) (by
    rw [show kw ++ 32 :: (a ++ r) ++ [32,55] = kw ++ 32 :: (a ++ (r ++ [32,55])) by simp]
    exact isNo_of h7)
theorem set_N {a b : List Nat} {v : PV} {x y : List (List Nat)} (h : setN a b v x y = true) (hy : ∀ r ∈ x,r ++ [32,55] ∈ y) {r : List Nat} (hr : r ∈ x) : GoodX ("PRAGMA",S (32 :: (a ++ r)),.tup [.str "pragma",.str (S b),v]) := by
  unfold setN at h
  simp only [Bool.and_eq_true] at h
  obtain ⟨⟨hn,h1,h2⟩,h3,h4⟩ := h
  have hk := node_ok hn
  have g1 := allN_mem h1 r hr
  have ha : bigN.all (Nat.blt · 128) = true := by decide +kernel
  have hl : (S (32 :: (a ++ r))).length ≤ 5000 := by
    have := read_len (isP_of g1)
    rw [List.length_append] at this
    show (32 :: (a ++ r)).length ≤ 5000
    omega
  have el : Txt.lower "PRAGMA" = S lowN := lower_S (w := bigN) ha
  refine ⟨?_, ?_,show ("PRAGMA" : Str).length ≤ 5000 by decide +kernel,hl, ?_,good_N hk g1 (allN_mem h3 _ (hy r hr))⟩
  · show Builtin.Str.tooLong (Txt.lower "PRAGMA").length = false
    rw [el]; exact short_S (by decide)
  · show (Txt.lower "PRAGMA").length ≤ 5000
    rw [el]; decide +kernel
  · show Good (Txt.lower "PRAGMA" ++ _) _
    rw [el]
    exact good_N hk (allN_mem h2 r hr) (allN_mem h4 _ (hy r hr))
theorem mem_N {u r : List Nat} (h : r ∈ formN u []) : r ++ [32,55] ∈ formN u [32,55] := by
  unfold formN at h ⊢
  simp only [List.append_nil,List.mem_cons,List.not_mem_nil,or_false] at h ⊢
  rcases h with rfl | rfl | rfl | rfl <;> simp
theorem prag_N {c : List Nat × List Nat} (h : pragN c = true) {w : List Nat × PV} (hw : w ∈ worthN) {f : Str} (hf : f ∈ forms (S w.1)) : GoodX ("PRAGMA"," " ++ S c.1 ++ f,.tup [.str "pragma",.str (S c.2),formV f w.2]) := by
  unfold pragN at h
  rw [Bool.and_eq_true] at h
  have e : ∀ r," " ++ S c.1 ++ S r = S (32 :: (c.1 ++ r)) := fun r => by
    rw [show (" " : Str) = S [32] from rfl,S_app,S_app]; rfl
  have go : ∀ {f : Str} {r},r ∈ formN w.1 [] → r ≠ [] → f = S r → GoodX ("PRAGMA"," " ++ S c.1 ++ f,.tup [.str "pragma",.str (S c.2),formV f w.2]) := fun {f r} hr h0 hf => by
    have : formV f w.2 = w.2 := by
      unfold formV
      rw [show (f != "") = true by
        rw [hf,bne_iff_ne]
        intro x
        exact h0 (S_inj (b := []) x)]
      rfl
    rw [this,hf,e]
    exact set_N (List.all_eq_true.mp h.2 w hw) (fun r => mem_N) hr
  unfold forms at hf
  simp only [List.mem_cons,List.not_mem_nil,or_false] at hf
  have ap : ∀ x y : List Nat,S x ++ S y = S (x ++ y) := S_app
  rcases hf with hf | hf | hf | hf | hf
  · exact go (r := 32 :: 61 :: 32 :: (w.1 ++ [])) (by simp [formN]) (by simp) (by rw [hf,List.append_nil]; exact S_app [32,61,32] _)
  · exact go (r := 61 :: (w.1 ++ [])) (by simp [formN]) (by simp) (by rw [hf,List.append_nil]; exact S_app [61] _)
  · exact go (r := 40 :: (w.1 ++ [41])) (by simp [formN]) (by simp) (by rw [hf,show ("(" : Str) = S [40] from rfl,show (")" : Str) = S [41] from rfl,S_app,S_app]; rfl)
  · exact go (r := 32 :: 40 :: 32 :: (w.1 ++ [32,41])) (by simp [formN]) (by simp) (by rw [hf,show (" ( " : Str) = S [32,40,32] from rfl,show (" )" : Str) = S [32,41] from rfl,S_app,S_app]; rfl)
  · subst hf
    rw [show ("" : Str) = S [] from rfl,e]
    exact set_N h.1 (fun r hr => by rw [List.mem_singleton.mp hr]; exact .head _) (List.mem_singleton.mpr rfl)
theorem s8_0 : pragN ([115],[115]) = true := by decide +kernel
theorem s8_1 : pragN ([80,111,105,110,116,95,49],[80,111,105,110,116,95,49]) = true := by decide +kernel
theorem s8_2 : pragN ([34,116,111,34],[116,111]) = true := by decide +kernel
theorem s8_3 : pragN ([91,97,32,98,93],[97,32,98]) = true := by decide +kernel
theorem s8_4 : pragN ([96,120,96],[120]) = true := by decide +kernel
theorem s8_5 : pragN ([34,113,34,34,114,34],[113,34,114]) = true := by decide +kernel
theorem s8_6 : pragN ([34,115,97,118,101,112,111,105,110,116,34],[115,97,118,101,112,111,105,110,116]) = true := by decide +kernel
theorem s8_7 : pragN ([34,34],[]) = true := by decide +kernel
theorem s8_8 : pragN ([119,97,108],[119,97,108]) = true := by decide +kernel
theorem s_8 : ∀ c ∈ calledN,pragN c = true := fun c hc => by
  unfold calledN at hc
  simp only [List.mem_cons,List.not_mem_nil,or_false] at hc
  rcases hc with rfl | rfl | rfl | rfl | rfl | rfl | rfl | rfl | rfl
  · exact s8_0
  · exact s8_1
  · exact s8_2
  · exact s8_3
  · exact s8_4
  · exact s8_5
  · exact s8_6
  · exact s8_7
  · exact s8_8
theorem plain1 : ∀ x,InSt x → GoodX x := fun x h => by
  rcases h with h | h | h | h | h | h | h | h
  · exact goodX_S (List.all_eq_true.mp s_1 x h)
  · exact goodX_S (List.all_eq_true.mp s_2 x h)
  · exact goodX_S (List.all_eq_true.mp s_3 x h)
  · exact goodX_S (List.all_eq_true.mp s_4 x h)
  · exact goodX_S (List.all_eq_true.mp s_5 x h)
  · exact goodX_S (List.all_eq_true.mp s_6 x h)
  · exact goodX_S (List.all_eq_true.mp s_7 x h)
  · unfold stL8 at h
    rw [called_eq,worth_eq] at h
    obtain ⟨c,hc,h⟩ := List.mem_flatMap.mp h
    obtain ⟨w,hw,h⟩ := List.mem_flatMap.mp h
    obtain ⟨f,hf,rfl⟩ := List.mem_map.mp h
    obtain ⟨c',hc',rfl⟩ := List.mem_map.mp hc
    obtain ⟨w',hw',rfl⟩ := List.mem_map.mp hw
    exact prag_N (s_8 c' hc') hw' hf
end Mine
end
section
set_option maxHeartbeats 8000000
namespace Mine
noncomputable def pP:Program:=PySem.Challenge.pw_pb0457_01
noncomputable def vi (n t : Nat) : Value := .int (Int.ofNat n) t
noncomputable def vs (s : Str) (t : Nat) : Value := .str s t
noncomputable def vr (a : Nat) : Value := .ref a
noncomputable def de (P : Params) (s : Str) (t : Nat) (v : Value) : DictEntry := ⟨PyData.keyHash P s,.str s t,v⟩
noncomputable def dob (es : List DictEntry) (n : Nat) : Obj := ⟨.type "dict",none,.dict es.toArray n,#[]⟩
noncomputable def tob (xs : List Value) (n : Nat) : Obj := ⟨.type "tuple",none,.seq xs.toArray n,#[]⟩
noncomputable def cob (xs : List Value) : Obj := ⟨.type "code",none,.fields xs.toArray,#[]⟩
noncomputable def fob (c : Value) (nm q : Str) (st : Stmt) (sc : Scope) (gl : Nat) (pm code : Value) (b : Nat) : Obj := ⟨c,none,.func (FuncData.mk nm q (argsOf st) (.stmts (bodyOf st)) sc gl [] .none .none .none pm none code .none b),#[]⟩
noncomputable def bl (o : Obj) : BT := .node o .nil .nil
noncomputable def bn (o : Obj) (l r : BT) : BT := .node o l r
noncomputable def bz : BT := .nil
noncomputable def vz : Value := .none
noncomputable def lf0:Life:=(PySem.Life.mk [] [] [] 0 [] [] false #[] [] 0 false false false (0 : Int) [(2000 : Int),(10 : Int),(10 : Int)] false 0 true [] [] 0 false)
noncomputable def drE:Drawn:=(PySem.Drawn.mk 0 0 0 0)
noncomputable def s0:Str:=⟨Array.mk [60,109,111,100,117,108,101,62]⟩
noncomputable def s1:Str:=⟨Array.mk [47,99,108,97,105,109,47,99,117,116,46,112,121]⟩
noncomputable def s2:Str:=⟨Array.mk [95,95,109,97,105,110,95,95]⟩
noncomputable def s3:Str:=⟨Array.mk [95,95,110,97,109,101,95,95]⟩
noncomputable def s4:Str:=⟨Array.mk [112,97,103,101,98,97,115,101,46,110,111,100,101,115]⟩
noncomputable def s5:Str:=⟨Array.mk [95,95,100,111,99,95,95]⟩
noncomputable def s6:Str:=⟨Array.mk [95,95,112,97,99,107,97,103,101,95,95]⟩
noncomputable def s7:Str:=⟨Array.mk [95,95,108,111,97,100,101,114,95,95]⟩
noncomputable def s8:Str:=⟨Array.mk [95,95,115,112,101,99,95,95]⟩
noncomputable def s9:Str:=⟨Array.mk [95,95,97,110,110,111,116,97,116,105,111,110,115,95,95]⟩
noncomputable def s10:Str:=⟨Array.mk [95,95,98,117,105,108,116,105,110,115,95,95]⟩
noncomputable def s11:Str:=⟨Array.mk [95,95,102,105,108,101,95,95]⟩
noncomputable def s12:Str:=⟨Array.mk [95,95,99,97,99,104,101,100,95,95]⟩
noncomputable def s13:Str:=⟨Array.mk [95,119,97,108,108]⟩
noncomputable def s14:Str:=⟨Array.mk [78,111,100,101]⟩
noncomputable def s15:Str:=⟨Array.mk [107]⟩
noncomputable def s16:Str:=⟨Array.mk [95,95,109,111,100,117,108,101,95,95]⟩
noncomputable def s17:Str:=⟨Array.mk [95,95,113,117,97,108,110,97,109,101,95,95]⟩
noncomputable def s18:Str:=⟨Array.mk [95,95,102,105,114,115,116,108,105,110,101,110,111,95,95]⟩
noncomputable def s19:Str:=⟨Array.mk [114,111,119]⟩
noncomputable def s20:Str:=⟨Array.mk [95,95,115,116,97,116,105,99,95,97,116,116,114,105,98,117,116,101,115,95,95]⟩
noncomputable def s21:Str:=⟨Array.mk [115,101,108,102]⟩
noncomputable def s22:Str:=⟨Array.mk [78,111,100,101,46,114,111,119]⟩
noncomputable def s23:Str:=⟨Array.mk [95,95,100,105,99,116,95,95]⟩
noncomputable def s24:Str:=⟨Array.mk [95,95,119,101,97,107,114,101,102,95,95]⟩
noncomputable def s25:Str:=⟨Array.mk [66,101,103,105,110]⟩
noncomputable def s26:Str:=⟨Array.mk [95,95,105,110,105,116,95,95]⟩
noncomputable def s27:Str:=⟨Array.mk [107,105,110,100]⟩
noncomputable def s28:Str:=⟨Array.mk [66,101,103,105,110,46,95,95,105,110,105,116,95,95]⟩
noncomputable def s29:Str:=⟨Array.mk [66,101,103,105,110,46,114,111,119]⟩
noncomputable def s30:Str:=⟨Array.mk [67,111,109,109,105,116]⟩
noncomputable def s31:Str:=⟨Array.mk [67,111,109,109,105,116,46,114,111,119]⟩
noncomputable def s32:Str:=⟨Array.mk [82,111,108,108,98,97,99,107]⟩
noncomputable def s33:Str:=⟨Array.mk [110,97,109,101]⟩
noncomputable def s34:Str:=⟨Array.mk [82,111,108,108,98,97,99,107,46,95,95,105,110,105,116,95,95]⟩
noncomputable def s35:Str:=⟨Array.mk [82,111,108,108,98,97,99,107,46,114,111,119]⟩
noncomputable def s36:Str:=⟨Array.mk [83,97,118,101,112,111,105,110,116]⟩
noncomputable def s37:Str:=⟨Array.mk [83,97,118,101,112,111,105,110,116,46,95,95,105,110,105,116,95,95]⟩
noncomputable def s38:Str:=⟨Array.mk [83,97,118,101,112,111,105,110,116,46,114,111,119]⟩
noncomputable def s39:Str:=⟨Array.mk [82,101,108,101,97,115,101]⟩
noncomputable def s40:Str:=⟨Array.mk [82,101,108,101,97,115,101,46,95,95,105,110,105,116,95,95]⟩
noncomputable def s41:Str:=⟨Array.mk [82,101,108,101,97,115,101,46,114,111,119]⟩
noncomputable def s42:Str:=⟨Array.mk [80,114,97,103,109,97]⟩
noncomputable def s43:Str:=⟨Array.mk [118,97,108,117,101]⟩
noncomputable def s44:Str:=⟨Array.mk [80,114,97,103,109,97,46,95,95,105,110,105,116,95,95]⟩
noncomputable def s45:Str:=⟨Array.mk [80,114,97,103,109,97,46,114,111,119]⟩
noncomputable def s46:Str:=⟨Array.mk [112,97,103,101,98,97,115,101,46,114,101,97,100,95,116,114,97,110,115,97,99,116,105,111,110,115]⟩
noncomputable def s47:Str:=⟨Array.mk [86,97,99,117,117,109]⟩
noncomputable def s48:Str:=⟨Array.mk [66,69,71,73,78,95,75,73,78,68,83]⟩
noncomputable def s49:Str:=⟨Array.mk [86,97,99,117,117,109,46,114,111,119]⟩
noncomputable def s50:Str:=⟨Array.mk [68,69,70,69,82,82,69,68]⟩
noncomputable def s51:Str:=⟨Array.mk [73,77,77,69,68,73,65,84,69]⟩
noncomputable def s52:Str:=⟨Array.mk [69,88,67,76,85,83,73,86,69]⟩
noncomputable def s53:Str:=⟨Array.mk [112,97,103,101,98,97,115,101,46,101,114,114,111,114,115]⟩
noncomputable def s54:Str:=⟨Array.mk [84,114,97,110,115,97,99,116,105,111,110,82,101,97,100,101,114]⟩
noncomputable def s55:Str:=⟨Array.mk [116,114,97,110,115,97,99,116,105,111,110]⟩
noncomputable def s56:Str:=⟨Array.mk [98,101,103,105,110]⟩
noncomputable def s57:Str:=⟨Array.mk [114,111,108,108,98,97,99,107]⟩
noncomputable def s58:Str:=⟨Array.mk [112,114,97,103,109,97]⟩
noncomputable def s59:Str:=⟨Array.mk [115,101,116,116,105,110,103]⟩
noncomputable def s60:Str:=⟨Array.mk [115,116,114,101,97,109]⟩
noncomputable def s61:Str:=⟨Array.mk [84,114,97,110,115,97,99,116,105,111,110,82,101,97,100,101,114,46,95,95,105,110,105,116,95,95]⟩
noncomputable def s62:Str:=⟨Array.mk [84,114,97,110,115,97,99,116,105,111,110,82,101,97,100,101,114,46,116,114,97,110,115,97,99,116,105,111,110]⟩
noncomputable def s63:Str:=⟨Array.mk [84,114,97,110,115,97,99,116,105,111,110,82,101,97,100,101,114,46,98,101,103,105,110]⟩
noncomputable def s64:Str:=⟨Array.mk [84,114,97,110,115,97,99,116,105,111,110,82,101,97,100,101,114,46,114,111,108,108,98,97,99,107]⟩
noncomputable def s65:Str:=⟨Array.mk [84,114,97,110,115,97,99,116,105,111,110,82,101,97,100,101,114,46,112,114,97,103,109,97]⟩
noncomputable def s66:Str:=⟨Array.mk [97,104,101,97,100]⟩
noncomputable def s67:Str:=⟨Array.mk [84,114,97,110,115,97,99,116,105,111,110,82,101,97,100,101,114,46,115,101,116,116,105,110,103]⟩
noncomputable def s68:Str:=⟨Array.mk [116,121,112,101,46,95,95,115,117,98,99,108,97,115,115,101,115,95,95,46,69,120,99,101,112,116,105,111,110,46,48]⟩
noncomputable def s69:Str:=⟨Array.mk [116,121,112,101,46,95,95,115,117,98,99,108,97,115,115,101,115,95,95,46,69,120,99,101,112,116,105,111,110,46,110]⟩
noncomputable def s70:Str:=⟨Array.mk [80,97,103,101,98,97,115,101,69,114,114,111,114]⟩
noncomputable def s71:Str:=⟨Array.mk [109,101,115,115,97,103,101]⟩
noncomputable def s72:Str:=⟨Array.mk [80,97,103,101,98,97,115,101,69,114,114,111,114,46,95,95,105,110,105,116,95,95]⟩
noncomputable def s73:Str:=⟨Array.mk [83,113,108,69,114,114,111,114]⟩
noncomputable def s74:Str:=⟨Array.mk [112,97,103,101,98,97,115,101,46,119,111,114,100,115]⟩
noncomputable def s75:Str:=⟨Array.mk [80,97,114,115,101,69,114,114,111,114]⟩
noncomputable def s76:Str:=⟨Array.mk [81,85,79,84,69,83]⟩
noncomputable def s77:Str:=⟨Array.mk [39,34,96,91]⟩
noncomputable def s78:Str:=⟨Array.mk [66,76,65,78,75,83]⟩
noncomputable def s79:Str:=⟨Array.mk [32,9,10,13,12]⟩
noncomputable def s80:Str:=⟨Array.mk [70,73,71,85,82,69,83]⟩
noncomputable def s81:Str:=⟨Array.mk [48,49,50,51,52,53,54,55,56,57]⟩
noncomputable def s82:Str:=⟨Array.mk [72,69,88,95,70,73,71,85,82,69,83]⟩
noncomputable def s83:Str:=⟨Array.mk [48,49,50,51,52,53,54,55,56,57,97,98,99,100,101,102,65,66,67,68,69,70]⟩
noncomputable def s84:Str:=⟨Array.mk [76,69,84,84,69,82,83]⟩
noncomputable def s85:Str:=⟨Array.mk [97,98,99,100,101,102,103,104,105,106,107,108,109,110,111,112,113,114,115,116,117,118,119,120,121,122,65,66,67,68,69,70,71,72,73,74,75,76,77,78,79,80,81,82,83,84,85,86,87,88,89,90,95]⟩
noncomputable def s86:Str:=⟨Array.mk [78,65,77,69,95,83,73,71,78,83]⟩
noncomputable def s87:Str:=⟨Array.mk [97,98,99,100,101,102,103,104,105,106,107,108,109,110,111,112,113,114,115,116,117,118,119,120,121,122,65,66,67,68,69,70,71,72,73,74,75,76,77,78,79,80,81,82,83,84,85,86,87,88,89,90,95,48,49,50,51,52,53,54,55,56,57,36]⟩
noncomputable def s88:Str:=⟨Array.mk [83,73,71,78,83,95,79,70,95,84,87,79]⟩
noncomputable def s89:Str:=⟨Array.mk [83,73,71,78,83,95,79,70,95,79,78,69]⟩
noncomputable def s90:Str:=⟨Array.mk [40,41,44,46,59,43,45,42,47,37,61,60,62,38,124,126]⟩
noncomputable def s91:Str:=⟨Array.mk [112,108,97,99,101]⟩
noncomputable def s92:Str:=⟨Array.mk [80,97,114,115,101,69,114,114,111,114,46,95,95,105,110,105,116,95,95]⟩
noncomputable def s93:Str:=⟨Array.mk [60,61]⟩
noncomputable def s94:Str:=⟨Array.mk [62,61]⟩
noncomputable def s95:Str:=⟨Array.mk [60,62]⟩
noncomputable def s96:Str:=⟨Array.mk [33,61]⟩
noncomputable def s97:Str:=⟨Array.mk [61,61]⟩
noncomputable def s98:Str:=⟨Array.mk [124,124]⟩
noncomputable def s99:Str:=⟨Array.mk [60,60]⟩
noncomputable def s100:Str:=⟨Array.mk [62,62]⟩
noncomputable def s101:Str:=⟨Array.mk [76,73,75,69,95,83,73,71,78,83]⟩
noncomputable def s102:Str:=⟨Array.mk [77,79,83,84,95,86,65,82,73,65,66,76,69]⟩
noncomputable def s103:Str:=⟨Array.mk [71,82,69,65,84,69,83,84]⟩
noncomputable def s104:Str:=⟨Array.mk [82,69,83,69,82,86,69,68]⟩
noncomputable def s105:Str:=⟨Array.mk [74,79,73,78,73,78,71]⟩
noncomputable def s106:Str:=⟨Array.mk [102,111,108,100,101,100]⟩
noncomputable def s107:Str:=⟨Array.mk [98,101,103,105,110,115,95,110,97,109,101]⟩
noncomputable def s108:Str:=⟨Array.mk [103,111,101,115,95,111,110,95,110,97,109,101]⟩
noncomputable def s109:Str:=⟨Array.mk [61]⟩
noncomputable def s110:Str:=⟨Array.mk [65,68,68]⟩
noncomputable def s111:Str:=⟨Array.mk [65,76,76]⟩
noncomputable def s112:Str:=⟨Array.mk [65,76,84,69,82]⟩
noncomputable def s113:Str:=⟨Array.mk [65,78,68]⟩
noncomputable def s114:Str:=⟨Array.mk [65,83]⟩
noncomputable def s115:Str:=⟨Array.mk [65,85,84,79,73,78,67,82,69,77,69,78,84]⟩
noncomputable def s116:Str:=⟨Array.mk [66,69,84,87,69,69,78]⟩
noncomputable def s117:Str:=⟨Array.mk [67,65,83,69]⟩
noncomputable def s118:Str:=⟨Array.mk [67,72,69,67,75]⟩
noncomputable def s119:Str:=⟨Array.mk [67,79,76,76,65,84,69]⟩
noncomputable def s120:Str:=⟨Array.mk [67,79,77,77,73,84]⟩
noncomputable def s121:Str:=⟨Array.mk [67,79,78,83,84,82,65,73,78,84]⟩
noncomputable def s122:Str:=⟨Array.mk [67,82,69,65,84,69]⟩
noncomputable def s123:Str:=⟨Array.mk [68,69,70,65,85,76,84]⟩
noncomputable def s124:Str:=⟨Array.mk [68,69,70,69,82,82,65,66,76,69]⟩
noncomputable def s125:Str:=⟨Array.mk [68,69,76,69,84,69]⟩
noncomputable def s126:Str:=⟨Array.mk [68,73,83,84,73,78,67,84]⟩
noncomputable def s127:Str:=⟨Array.mk [68,82,79,80]⟩
noncomputable def s128:Str:=⟨Array.mk [69,76,83,69]⟩
noncomputable def s129:Str:=⟨Array.mk [69,83,67,65,80,69]⟩
noncomputable def s130:Str:=⟨Array.mk [69,88,67,69,80,84]⟩
noncomputable def s131:Str:=⟨Array.mk [69,88,73,83,84,83]⟩
noncomputable def s132:Str:=⟨Array.mk [70,79,82,69,73,71,78]⟩
noncomputable def s133:Str:=⟨Array.mk [70,82,79,77]⟩
noncomputable def s134:Str:=⟨Array.mk [71,82,79,85,80]⟩
noncomputable def s135:Str:=⟨Array.mk [72,65,86,73,78,71]⟩
noncomputable def s136:Str:=⟨Array.mk [73,78]⟩
noncomputable def s137:Str:=⟨Array.mk [73,78,68,69,88]⟩
noncomputable def s138:Str:=⟨Array.mk [73,78,83,69,82,84]⟩
noncomputable def s139:Str:=⟨Array.mk [73,78,84,69,82,83,69,67,84]⟩
noncomputable def s140:Str:=⟨Array.mk [73,78,84,79]⟩
noncomputable def s141:Str:=⟨Array.mk [73,83]⟩
noncomputable def s142:Str:=⟨Array.mk [73,83,78,85,76,76]⟩
noncomputable def s143:Str:=⟨Array.mk [74,79,73,78]⟩
noncomputable def s144:Str:=⟨Array.mk [76,73,77,73,84]⟩
noncomputable def s145:Str:=⟨Array.mk [78,79,84]⟩
noncomputable def s146:Str:=⟨Array.mk [78,79,84,72,73,78,71]⟩
noncomputable def s147:Str:=⟨Array.mk [78,79,84,78,85,76,76]⟩
noncomputable def s148:Str:=⟨Array.mk [78,85,76,76]⟩
noncomputable def s149:Str:=⟨Array.mk [79,78]⟩
noncomputable def s150:Str:=⟨Array.mk [79,82]⟩
noncomputable def s151:Str:=⟨Array.mk [79,82,68,69,82]⟩
noncomputable def s152:Str:=⟨Array.mk [80,82,73,77,65,82,89]⟩
noncomputable def s153:Str:=⟨Array.mk [82,69,70,69,82,69,78,67,69,83]⟩
noncomputable def s154:Str:=⟨Array.mk [82,69,84,85,82,78,73,78,71]⟩
noncomputable def s155:Str:=⟨Array.mk [83,69,76,69,67,84]⟩
noncomputable def s156:Str:=⟨Array.mk [83,69,84]⟩
noncomputable def s157:Str:=⟨Array.mk [84,65,66,76,69]⟩
noncomputable def s158:Str:=⟨Array.mk [84,72,69,78]⟩
noncomputable def s159:Str:=⟨Array.mk [84,79]⟩
noncomputable def s160:Str:=⟨Array.mk [84,82,65,78,83,65,67,84,73,79,78]⟩
noncomputable def s161:Str:=⟨Array.mk [85,78,73,79,78]⟩
noncomputable def s162:Str:=⟨Array.mk [85,78,73,81,85,69]⟩
noncomputable def s163:Str:=⟨Array.mk [85,80,68,65,84,69]⟩
noncomputable def s164:Str:=⟨Array.mk [85,83,73,78,71]⟩
noncomputable def s165:Str:=⟨Array.mk [86,65,76,85,69,83]⟩
noncomputable def s166:Str:=⟨Array.mk [87,72,69,78]⟩
noncomputable def s167:Str:=⟨Array.mk [87,72,69,82,69]⟩
noncomputable def s168:Str:=⟨Array.mk [67,82,79,83,83]⟩
noncomputable def s169:Str:=⟨Array.mk [70,85,76,76]⟩
noncomputable def s170:Str:=⟨Array.mk [73,78,68,69,88,69,68]⟩
noncomputable def s171:Str:=⟨Array.mk [73,78,78,69,82]⟩
noncomputable def s172:Str:=⟨Array.mk [76,69,70,84]⟩
noncomputable def s173:Str:=⟨Array.mk [78,65,84,85,82,65,76]⟩
noncomputable def s174:Str:=⟨Array.mk [79,85,84,69,82]⟩
noncomputable def s175:Str:=⟨Array.mk [82,73,71,72,84]⟩
noncomputable def s176:Str:=⟨Array.mk [115,105,103,110]⟩
noncomputable def s177:Str:=⟨Array.mk [87,111,114,100]⟩
noncomputable def s178:Str:=⟨Array.mk [105,115,95,115,105,103,110]⟩
noncomputable def s179:Str:=⟨Array.mk [105,115,95,107,101,121]⟩
noncomputable def s180:Str:=⟨Array.mk [105,115,95,102,114,101,101]⟩
noncomputable def s181:Str:=⟨Array.mk [105,115,95,112,108,97,105,110]⟩
noncomputable def s182:Str:=⟨Array.mk [116,101,120,116]⟩
noncomputable def s183:Str:=⟨Array.mk [87,111,114,100,46,95,95,105,110,105,116,95,95]⟩
noncomputable def s184:Str:=⟨Array.mk [87,111,114,100,46,105,115,95,115,105,103,110]⟩
noncomputable def s185:Str:=⟨Array.mk [87,111,114,100,46,105,115,95,107,101,121]⟩
noncomputable def s186:Str:=⟨Array.mk [87,111,114,100,46,105,115,95,102,114,101,101]⟩
noncomputable def s187:Str:=⟨Array.mk [87,111,114,100,46,105,115,95,112,108,97,105,110]⟩
noncomputable def s188:Str:=⟨Array.mk [87,111,114,100,46,114,111,119]⟩
noncomputable def s189:Str:=⟨Array.mk [83,99,97,110,110,101,114]⟩
noncomputable def s190:Str:=⟨Array.mk [103,97,116,104,101,114]⟩
noncomputable def s191:Str:=⟨Array.mk [114,101,102,117,115,101]⟩
noncomputable def s192:Str:=⟨Array.mk [114,117,110]⟩
noncomputable def s193:Str:=⟨Array.mk [101,110,100,95,111,102]⟩
noncomputable def s194:Str:=⟨Array.mk [98,97,114,101]⟩
noncomputable def s195:Str:=⟨Array.mk [99,108,111,115,105,110,103]⟩
noncomputable def s196:Str:=⟨Array.mk [113,117,111,116,101,100,95,119,111,114,100]⟩
noncomputable def s197:Str:=⟨Array.mk [98,108,111,98]⟩
noncomputable def s198:Str:=⟨Array.mk [110,117,109,98,101,114]⟩
noncomputable def s199:Str:=⟨Array.mk [118,97,108,117,101,95,111,102]⟩
noncomputable def s200:Str:=⟨Array.mk [109,97,114,107]⟩
noncomputable def s201:Str:=⟨Array.mk [118,97,114,105,97,98,108,101]⟩
noncomputable def s202:Str:=⟨Array.mk [83,99,97,110,110,101,114,46,95,95,105,110,105,116,95,95]⟩
noncomputable def s203:Str:=⟨Array.mk [101,110,100]⟩
noncomputable def s204:Str:=⟨Array.mk [83,99,97,110,110,101,114,46,103,97,116,104,101,114]⟩
noncomputable def s205:Str:=⟨Array.mk [83,99,97,110,110,101,114,46,114,101,102,117,115,101]⟩
noncomputable def s206:Str:=⟨Array.mk [115,105,122,101]⟩
noncomputable def s207:Str:=⟨Array.mk [83,99,97,110,110,101,114,46,114,117,110]⟩
noncomputable def s208:Str:=⟨Array.mk [115,105,103,110,115]⟩
noncomputable def s209:Str:=⟨Array.mk [83,99,97,110,110,101,114,46,101,110,100,95,111,102]⟩
noncomputable def s210:Str:=⟨Array.mk [119,114,105,116,116,101,110]⟩
noncomputable def s211:Str:=⟨Array.mk [83,99,97,110,110,101,114,46,98,97,114,101]⟩
noncomputable def s212:Str:=⟨Array.mk [113,117,111,116,101]⟩
noncomputable def s213:Str:=⟨Array.mk [112,97,114,116,115]⟩
noncomputable def s214:Str:=⟨Array.mk [83,99,97,110,110,101,114,46,99,108,111,115,105,110,103]⟩
noncomputable def s215:Str:=⟨Array.mk [83,99,97,110,110,101,114,46,113,117,111,116,101,100,95,119,111,114,100]⟩
noncomputable def s216:Str:=⟨Array.mk [102,105,103,117,114,101,115]⟩
noncomputable def s217:Str:=⟨Array.mk [83,99,97,110,110,101,114,46,98,108,111,98]⟩
noncomputable def s218:Str:=⟨Array.mk [98,101,104,105,110,100]⟩
noncomputable def s219:Str:=⟨Array.mk [83,99,97,110,110,101,114,46,110,117,109,98,101,114]⟩
noncomputable def s220:Str:=⟨Array.mk [98,97,115,101]⟩
noncomputable def s221:Str:=⟨Array.mk [83,99,97,110,110,101,114,46,118,97,108,117,101,95,111,102]⟩
noncomputable def s222:Str:=⟨Array.mk [112,97,105,114]⟩
noncomputable def s223:Str:=⟨Array.mk [83,99,97,110,110,101,114,46,109,97,114,107]⟩
noncomputable def s224:Str:=⟨Array.mk [83,99,97,110,110,101,114,46,118,97,114,105,97,98,108,101]⟩
noncomputable def s225:Str:=⟨Array.mk [102,111,117,110,100]⟩
noncomputable def s226:Str:=⟨Array.mk [103,114,101,97,116,101,115,116]⟩
noncomputable def s227:Str:=⟨Array.mk [112,97,103,101,98,97,115,101,46,115,116,114,101,97,109]⟩
noncomputable def s228:Str:=⟨Array.mk [114,101,97,100,95,119,111,114,100,115]⟩
noncomputable def s229:Str:=⟨Array.mk [81,85,79,84,69,68,95,65,76,87,65,89,83]⟩
noncomputable def s230:Str:=⟨Array.mk [105,115,95,98,97,114,101]⟩
noncomputable def s231:Str:=⟨Array.mk [119,114,105,116,101,95,110,97,109,101]⟩
noncomputable def s232:Str:=⟨Array.mk [119,114,105,116,101,95,118,97,108,117,101]⟩
noncomputable def s233:Str:=⟨Array.mk [119,114,105,116,101,95,116,114,97,110,115,97,99,116,105,111,110]⟩
noncomputable def s234:Str:=⟨Array.mk [65,66,79,82,84]⟩
noncomputable def s235:Str:=⟨Array.mk [65,83,67]⟩
noncomputable def s236:Str:=⟨Array.mk [66,69,71,73,78]⟩
noncomputable def s237:Str:=⟨Array.mk [66,89]⟩
noncomputable def s238:Str:=⟨Array.mk [67,65,83,84]⟩
noncomputable def s239:Str:=⟨Array.mk [68,69,83,67]⟩
noncomputable def s240:Str:=⟨Array.mk [69,78,68]⟩
noncomputable def s241:Str:=⟨Array.mk [69,88,80,76,65,73,78]⟩
noncomputable def s242:Str:=⟨Array.mk [70,65,73,76]⟩
noncomputable def s243:Str:=⟨Array.mk [71,76,79,66]⟩
noncomputable def s244:Str:=⟨Array.mk [73,70]⟩
noncomputable def s245:Str:=⟨Array.mk [73,71,78,79,82,69]⟩
noncomputable def s246:Str:=⟨Array.mk [75,69,89]⟩
noncomputable def s247:Str:=⟨Array.mk [76,73,75,69]⟩
noncomputable def s248:Str:=⟨Array.mk [79,70,70,83,69,84]⟩
noncomputable def s249:Str:=⟨Array.mk [80,82,65,71,77,65]⟩
noncomputable def s250:Str:=⟨Array.mk [82,69,76,69,65,83,69]⟩
noncomputable def s251:Str:=⟨Array.mk [82,69,80,76,65,67,69]⟩
noncomputable def s252:Str:=⟨Array.mk [82,79,76,76,66,65,67,75]⟩
noncomputable def s253:Str:=⟨Array.mk [83,65,86,69,80,79,73,78,84]⟩
noncomputable def s254:Str:=⟨Array.mk [86,65,67,85,85,77]⟩
noncomputable def s255:Str:=⟨Array.mk [87,73,84,72,79,85,84]⟩
noncomputable def s256:Str:=⟨Array.mk [119,111,114,100]⟩
noncomputable def s257:Str:=⟨Array.mk [112,97,103,101,98,97,115,101,46,112,114,105,110,116,95,110,97,109,101,115]⟩
noncomputable def s258:Str:=⟨Array.mk [110,111,100,101]⟩
noncomputable def s259:Str:=⟨Array.mk [112,97,103,101,98,97,115,101,46,112,114,105,110,116,101,114]⟩
noncomputable def s260:Str:=⟨Array.mk [87,111,114,100,83,116,114,101,97,109]⟩
noncomputable def s261:Str:=⟨Array.mk [104,101,114,101]⟩
noncomputable def s262:Str:=⟨Array.mk [103,111]⟩
noncomputable def s263:Str:=⟨Array.mk [105,115,95,111,118,101,114]⟩
noncomputable def s264:Str:=⟨Array.mk [105,115,95,111,110,101,95,111,102]⟩
noncomputable def s265:Str:=⟨Array.mk [105,115,95,115,101,108,101,99,116]⟩
noncomputable def s266:Str:=⟨Array.mk [116,97,107,101,95,107,101,121]⟩
noncomputable def s267:Str:=⟨Array.mk [116,97,107,101,95,115,105,103,110]⟩
noncomputable def s268:Str:=⟨Array.mk [110,101,101,100,95,107,101,121]⟩
noncomputable def s269:Str:=⟨Array.mk [110,101,101,100,95,115,105,103,110]⟩
noncomputable def s270:Str:=⟨Array.mk [110,101,101,100,95,110,97,109,101]⟩
noncomputable def s271:Str:=⟨Array.mk [100,101,101,112,101,114]⟩
noncomputable def s272:Str:=⟨Array.mk [104,105,103,104,101,114]⟩
noncomputable def s273:Str:=⟨Array.mk [87,111,114,100,83,116,114,101,97,109,46,95,95,105,110,105,116,95,95]⟩
noncomputable def s274:Str:=⟨Array.mk [87,111,114,100,83,116,114,101,97,109,46,104,101,114,101]⟩
noncomputable def s275:Str:=⟨Array.mk [109,97,110,121]⟩
noncomputable def s276:Str:=⟨Array.mk [87,111,114,100,83,116,114,101,97,109,46,97,104,101,97,100]⟩
noncomputable def s277:Str:=⟨Array.mk [87,111,114,100,83,116,114,101,97,109,46,103,111]⟩
noncomputable def s278:Str:=⟨Array.mk [87,111,114,100,83,116,114,101,97,109,46,114,101,102,117,115,101]⟩
noncomputable def s279:Str:=⟨Array.mk [87,111,114,100,83,116,114,101,97,109,46,105,115,95,111,118,101,114]⟩
noncomputable def s280:Str:=⟨Array.mk [87,111,114,100,83,116,114,101,97,109,46,105,115,95,107,101,121]⟩
noncomputable def s281:Str:=⟨Array.mk [87,111,114,100,83,116,114,101,97,109,46,105,115,95,115,105,103,110]⟩
noncomputable def s282:Str:=⟨Array.mk [107,101,121,115]⟩
noncomputable def s283:Str:=⟨Array.mk [87,111,114,100,83,116,114,101,97,109,46,105,115,95,111,110,101,95,111,102]⟩
noncomputable def s284:Str:=⟨Array.mk [87,111,114,100,83,116,114,101,97,109,46,105,115,95,115,101,108,101,99,116]⟩
noncomputable def s285:Str:=⟨Array.mk [87,111,114,100,83,116,114,101,97,109,46,116,97,107,101,95,107,101,121]⟩
noncomputable def s286:Str:=⟨Array.mk [87,111,114,100,83,116,114,101,97,109,46,116,97,107,101,95,115,105,103,110]⟩
noncomputable def s287:Str:=⟨Array.mk [87,111,114,100,83,116,114,101,97,109,46,110,101,101,100,95,107,101,121]⟩
noncomputable def s288:Str:=⟨Array.mk [87,111,114,100,83,116,114,101,97,109,46,110,101,101,100,95,115,105,103,110]⟩
noncomputable def s289:Str:=⟨Array.mk [87,111,114,100,83,116,114,101,97,109,46,110,101,101,100,95,110,97,109,101]⟩
noncomputable def s290:Str:=⟨Array.mk [87,111,114,100,83,116,114,101,97,109,46,100,101,101,112,101,114]⟩
noncomputable def s291:Str:=⟨Array.mk [87,111,114,100,83,116,114,101,97,109,46,104,105,103,104,101,114]⟩
noncomputable def s292:Str:=⟨Array.mk [97,116]⟩
noncomputable def s293:Str:=⟨Array.mk [100,101,112,116,104]⟩
noncomputable def s294:Str:=⟨Array.mk [119,111,114,100,115]⟩
noncomputable def s295:Str:=⟨Array.mk [108,97,119,95,112,98,48,52,53,55,95,48,49]⟩
noncomputable def s296:Str:=⟨Array.mk [95,108,97,119,95,112,111,111,108]⟩
noncomputable def s297:Str:=⟨Array.mk [95,108,97,119,95,116,97,107,101]⟩
noncomputable def s298:Str:=⟨Array.mk [95,108,97,119,95,111,110,101]⟩
noncomputable def s299:Str:=⟨Array.mk [95,108,97,119,95,99,97,108,108,101,100]⟩
noncomputable def s300:Str:=⟨Array.mk [95,108,97,119,95,119,111,114,116,104]⟩
noncomputable def s301:Str:=⟨Array.mk [95,108,97,119,95,98,101,103,105,110]⟩
noncomputable def s302:Str:=⟨Array.mk [95,108,97,119,95,115,116,97,116,101,109,101,110,116]⟩
noncomputable def s303:Str:=⟨Array.mk [95,108,97,119,95,114,101,97,100]⟩
noncomputable def s304:Str:=⟨Array.mk [95,108,97,119,95,105,115,95,114,101,102,117,115,101,100]⟩
noncomputable def s305:Str:=⟨Array.mk [108,97,119]⟩
noncomputable def s306:Str:=⟨Array.mk [115,99,114,105,112,116]⟩
noncomputable def s307:Str:=⟨Array.mk [99,101,108,108]⟩
noncomputable def s308:Str:=⟨Array.mk [98,105,103]⟩
noncomputable def s309:Str:=⟨Array.mk [109,105,120,101,100]⟩
noncomputable def s310:Str:=⟨Array.mk [115,111,117,114,99,101]⟩
noncomputable def s311:Str:=⟨Array.mk [116,111,112]⟩
noncomputable def s312:Str:=⟨Array.mk [102,105,103,117,114,101]⟩
noncomputable def s313:Str:=⟨Array.mk [116,104,105,110,103,115]⟩
noncomputable def s314:Str:=⟨Array.mk [112,97,105,114,115]⟩
noncomputable def s315:Str:=⟨Array.mk [119,97,121]⟩
noncomputable def s316:Str:=⟨Array.mk [119,111,114,116,104]⟩
noncomputable def s317:Str:=⟨Array.mk [102,111,114,109]⟩
noncomputable def annE : Option Value := (Option.some (vr 6))
noncomputable def envE:Env:={ scope := pP.main.scope,locals := mainNs,globals := mainGlobals,cells := [],code := (vr 13),frame := some 14 }
noncomputable abbrev hcE : Code := .body (behindTheImports pP) envE
noncomputable abbrev hBE : List Frame := [topFrame ⟨0,0,0,0⟩]
noncomputable def o0:Obj:=tob [] 0
noncomputable def o1:Obj:=(Obj.mk vz none (Data.fields #[]) #[])
noncomputable def o2:Obj:=cob [vs s0 182,vs s0 183,vs s1 184,vi 1 0,vi 0 0,vi 0 0,vi 0 0,vi 0 0,vr 11,Value.bool false,vi 181 0,vr 12,vz,vz,vz,vz,vi 185 0,vi 1 0,vs s1 186]
noncomputable def o3:Obj:=(Obj.mk (Value.type "frame") none Data.plain #[Option.some (vr 13),Option.some (vr 3),Option.some (vr 3),none,Option.some (vs s2 164),none,Option.some (vr 0)])
noncomputable def heapA (P : Params) : Heap := Heap.mk (Array.mk [boot_o_0 P,boot_o_1 P,boot_o_2 P,boot_o_3 P,boot_o_4 P,boot_o_5 P,boot_o_6 P,boot_o_7 P,boot_o_8 P,boot_o_9 P,boot_o_10 P,o0,o1,o2,o3]) lf0
noncomputable def tB (P : Params) : BT := (bn (boot_o_0 P) (bn (boot_o_1 P) (bn (boot_o_3 P) (bl (boot_o_7 P)) (bl o0)) (bn (boot_o_5 P) (bl (boot_o_9 P)) (bl o2))) (bn (boot_o_2 P) (bn (boot_o_4 P) (bl (boot_o_8 P)) (bl o1)) (bn (boot_o_6 P) (bl (boot_o_10 P)) (bl o3))))
noncomputable def o4 (P : Params) : Obj := dob [de P s3 165 (vs s4 194),de P s5 166 vz,de P s6 167 vz,de P s7 168 (Value.builtin "__main__.__loader__#opaque"),de P s8 169 vz,de P s9 170 (vr 6),de P s10 171 (vr 4),de P s11 173 (vs s1 172),de P s12 174 vz,de P s13 193 (vr 21),de P s14 222 (vr 38)] 11
noncomputable def o5:Obj:=(Obj.mk vz none (Data.fields #[vi 1 0,vi 0 0,vr 20,vi 5 0,vi 0 0,vr 27]) #[])
noncomputable def o6:Obj:=tob [vs s15 190] 0
noncomputable def o7:Obj:=fob vz s13 s13 (topS 0) (scopeOf (topS 0)) 0 vz vz 0
noncomputable def o8:Obj:=cob [vs s13 187,vs s13 188,vs s1 189,vi 1 0,vi 1 0,vi 0 0,vi 0 0,vi 3 0,vr 15,Value.bool true,vi 181 0,vr 16,vz,vr 17,vr 18,vr 19,vi 191 0,vi 1 0,vs s1 192]
noncomputable def o9:Obj:=fob (Value.type "function") s13 s13 (topS 0) (scopeOf (topS 0)) 3 (vs s2 164) (vr 20) 0
noncomputable def o10:Obj:=(Obj.mk (Value.type "builtin_function_or_method") none (Data.fields #[Value.builtin "type.__prepare__",Value.type "type"]) #[])
noncomputable def o11 (P : Params) : Obj := dob [de P s16 203 (vs s4 194),de P s17 205 (vs s14 204),de P s18 207 (vi 5 206),de P s19 214 (vr 35),de P s20 215 (vr 36)] 5
noncomputable def o12:Obj:=(Obj.mk vz none (Data.fields #[vi 7 0,vi 4 0,vr 34]) #[])
noncomputable def o13:Obj:=cob [vs s14 198,vs s14 199,vs s1 200,vi 5 0,vi 0 0,vi 0 0,vi 0 0,vi 0 0,vr 25,Value.bool false,vi 181 0,vr 26,vz,vz,vz,vz,vi 201 0,vi 5 0,vs s1 202]
noncomputable def o14:Obj:=(Obj.mk (Value.type "frame") none Data.plain #[Option.some (vr 27),Option.some (vr 3),Option.some (vr 24),none,Option.some (vs s4 194),none,Option.some (vr 0)])
noncomputable def o15:Obj:=tob [vs s21 211] 0
noncomputable def o16:Obj:=fob vz s19 s22 (clsS 2 0) (scopeOf (clsS 45 14)) 0 vz vz 0
noncomputable def o17:Obj:=cob [vs s19 208,vs s22 209,vs s1 210,vi 7 0,vi 1 0,vi 0 0,vi 0 0,vi 3 0,vr 29,Value.bool true,vi 181 0,vr 30,vz,vr 31,vr 32,vr 33,vi 212 0,vi 7 0,vs s1 213]
noncomputable def o18:Obj:=fob (Value.type "function") s19 s22 (clsS 2 0) (scopeOf (clsS 45 14)) 3 (vs s4 194) (vr 34) 0
noncomputable def o19 (P : Params) : Obj := dob [de P s16 203 (vs s4 194),de P s18 207 (vi 5 206),de P s19 214 (vr 35),de P s20 215 (vr 36),de P s23 217 (vr 39),de P s24 219 (vr 40),de P s5 220 vz] 4
noncomputable def o20:Obj:=(Obj.mk (Value.type "type") none (Data.cls (ClassData.mk s14 [Value.type "object"] [vr 38,Value.type "object"] 37 s14 true [] [] false none false)) #[none,none,Option.some (vs s14 196),Option.some (vs s14 204),Option.some (Value.builtin "object.__new__"),Option.some (Value.bool true)])
noncomputable def o21:Obj:=(Obj.mk (Value.type "getset_descriptor") none (Data.fields #[vs s23 216,vr 38,Value.builtin "function.__dict__",Value.builtin "function.__dict__#set"]) #[])
noncomputable def o22:Obj:=(Obj.mk (Value.type "getset_descriptor") none (Data.fields #[vs s24 218,vr 38,Value.builtin "ExceptionGroup.__weakref__",vz]) #[])
noncomputable def o23:Obj:=(Obj.mk (Value.type "super") none (Data.fields #[vr 38,vr 38,vr 38]) #[])
noncomputable def o24:Obj:=(Obj.mk (Value.type "builtin_function_or_method") none (Data.fields #[Value.builtin "object.__init_subclass__",vr 38]) #[])
noncomputable def t0 (P : Params) : BT := (bn (boot_o_0 P) (bn (boot_o_1 P) (bn (o4 P) (bn (boot_o_7 P) (bn o0 (bl o15) bz) (bn o10 (bl o21) bz)) (bn o0 (bn o7 (bl o18) bz) (bl o13))) (bn (boot_o_5 P) (bn (boot_o_9 P) (bn o6 (bl o16) bz) (bn o0 (bl o23) bz)) (bn o2 (bn o9 (bl (o19 P)) bz) (bl o0)))) (bn (boot_o_2 P) (bn (boot_o_4 P) (bn (boot_o_8 P) (bn o1 (bl o0) bz) (bn (o11 P) (bl o22) bz)) (bn o5 (bn o8 (bl o0) bz) (bl o14))) (bn (boot_o_6 P) (bn (boot_o_10 P) (bn o0 (bl o17) bz) (bn o12 (bl o24) bz)) (bn o3 (bn o0 (bl o20) bz) (bl o1)))))
noncomputable def sts0 : List Stmt := [topS 0,topS 1,topS 2]
noncomputable def o25 (P : Params) : Obj := dob [de P s3 165 (vs s4 194),de P s5 166 vz,de P s6 167 vz,de P s7 168 (Value.builtin "__main__.__loader__#opaque"),de P s8 169 vz,de P s9 170 (vr 6),de P s10 171 (vr 4),de P s11 173 (vs s1 172),de P s12 174 vz,de P s13 193 (vr 21),de P s14 222 (vr 38),de P s25 254 (vr 66)] 12
noncomputable def o26:Obj:=(Obj.mk vz none (Data.fields #[vi 1 0,vi 0 0,vr 20,vi 5 0,vi 0 0,vr 27,vi 9 0,vi 0 0,vr 48]) #[])
noncomputable def o27:Obj:=(Obj.mk (Value.type "type") none (Data.cls (ClassData.mk s14 [Value.type "object"] [vr 38,Value.type "object"] 37 s14 true [] [vr 66] false none false)) #[none,none,Option.some (vs s14 196),Option.some (vs s14 204),Option.some (Value.builtin "object.__new__"),Option.some (Value.bool true)])
noncomputable def o28:Obj:=tob [vr 38] 0
noncomputable def o29 (P : Params) : Obj := dob [de P s16 230 (vs s4 194),de P s17 232 (vs s25 231),de P s18 234 (vi 9 233),de P s26 242 (vr 56),de P s19 249 (vr 63),de P s20 251 (vr 64)] 6
noncomputable def o30:Obj:=(Obj.mk vz none (Data.fields #[vi 11 0,vi 4 0,vr 55,vi 14 0,vi 4 0,vr 62]) #[])
noncomputable def o31:Obj:=cob [vs s25 225,vs s25 226,vs s1 227,vi 9 0,vi 0 0,vi 0 0,vi 0 0,vi 0 0,vr 46,Value.bool false,vi 181 0,vr 47,vz,vz,vz,vz,vi 228 0,vi 9 0,vs s1 229]
noncomputable def o32:Obj:=(Obj.mk (Value.type "frame") none Data.plain #[Option.some (vr 48),Option.some (vr 3),Option.some (vr 45),none,Option.some (vs s4 194),none,Option.some (vr 0)])
noncomputable def o33:Obj:=tob [vs s21 238,vs s27 239] 0
noncomputable def o34:Obj:=fob vz s26 s28 (clsS 3 0) (scopeOf (clsS 3 0)) 0 vz vz 0
noncomputable def o35:Obj:=cob [vs s26 235,vs s28 236,vs s1 237,vi 11 0,vi 2 0,vi 0 0,vi 0 0,vi 3 0,vr 50,Value.bool true,vi 181 0,vr 51,vz,vr 52,vr 53,vr 54,vi 240 0,vi 11 0,vs s1 241]
noncomputable def o36:Obj:=fob (Value.type "function") s26 s28 (clsS 3 0) (scopeOf (clsS 3 0)) 3 (vs s4 194) (vr 55) 0
noncomputable def o37:Obj:=tob [vs s21 246] 0
noncomputable def o38:Obj:=fob vz s19 s29 (clsS 3 1) (scopeOf (clsS 45 14)) 0 vz vz 0
noncomputable def o39:Obj:=cob [vs s19 243,vs s29 244,vs s1 245,vi 14 0,vi 1 0,vi 0 0,vi 0 0,vi 3 0,vr 57,Value.bool true,vi 181 0,vr 58,vz,vr 59,vr 60,vr 61,vi 247 0,vi 14 0,vs s1 248]
noncomputable def o40:Obj:=fob (Value.type "function") s19 s29 (clsS 3 1) (scopeOf (clsS 45 14)) 3 (vs s4 194) (vr 62) 0
noncomputable def o41:Obj:=tob [vs s27 250] 0
noncomputable def o42 (P : Params) : Obj := dob [de P s16 230 (vs s4 194),de P s18 234 (vi 9 233),de P s26 242 (vr 56),de P s19 249 (vr 63),de P s20 251 (vr 64),de P s5 252 vz] 2
noncomputable def o43:Obj:=(Obj.mk (Value.type "type") none (Data.cls (ClassData.mk s25 [vr 38] [vr 66,vr 38,Value.type "object"] 65 s25 true [] [] false none false)) #[Option.some (vr 43),none,Option.some (vs s25 223),Option.some (vs s25 231),Option.some (Value.builtin "object.__new__"),Option.some (Value.bool true)])
noncomputable def o44:Obj:=(Obj.mk (Value.type "super") none (Data.fields #[vr 66,vr 66,vr 66]) #[])
noncomputable def o45:Obj:=(Obj.mk (Value.type "builtin_function_or_method") none (Data.fields #[Value.builtin "object.__init_subclass__",vr 66]) #[])
noncomputable def t1 (P : Params) : BT := (bn (boot_o_0 P) (bn (boot_o_1 P) (bn (o25 P) (bn (boot_o_7 P) (bn o0 (bn o15 (bl o40) bz) (bl o30)) (bn o10 (bl o21) (bl o35))) (bn o0 (bn o7 (bn o18 (bl o44) bz) (bl o1)) (bn o13 (bl o28) (bl o37)))) (bn (boot_o_5 P) (bn (boot_o_9 P) (bn o6 (bn o16 (bl (o42 P)) bz) (bl o32)) (bn o0 (bl o23) (bl o0))) (bn o2 (bn o9 (bl (o19 P)) (bl o0)) (bn o0 (bl (o29 P)) (bl o38))))) (bn (boot_o_2 P) (bn (boot_o_4 P) (bn (boot_o_8 P) (bn o1 (bn o0 (bl o41) bz) (bl o31)) (bn (o11 P) (bl o22) (bl o36))) (bn o26 (bn o8 (bn o0 (bl o45) bz) (bl o33)) (bn o14 (bl o10) (bl o0)))) (bn (boot_o_6 P) (bn (boot_o_10 P) (bn o0 (bn o17 (bl o43) bz) (bl o0)) (bn o12 (bl o24) (bl o1))) (bn o3 (bn o0 (bl o27) (bl o34)) (bn o1 (bl o0) (bl o39))))))
noncomputable def sts1 : List Stmt := [topS 3]
noncomputable def o46 (P : Params) : Obj := dob [de P s3 165 (vs s4 194),de P s5 166 vz,de P s6 167 vz,de P s7 168 (Value.builtin "__main__.__loader__#opaque"),de P s8 169 vz,de P s9 170 (vr 6),de P s10 171 (vr 4),de P s11 173 (vs s1 172),de P s12 174 vz,de P s13 193 (vr 21),de P s14 222 (vr 38),de P s25 254 (vr 66),de P s30 277 (vr 85)] 13
noncomputable def o47:Obj:=(Obj.mk vz none (Data.fields #[vi 1 0,vi 0 0,vr 20,vi 5 0,vi 0 0,vr 27,vi 9 0,vi 0 0,vr 48,vi 16 0,vi 0 0,vr 74]) #[])
noncomputable def o48:Obj:=(Obj.mk (Value.type "type") none (Data.cls (ClassData.mk s14 [Value.type "object"] [vr 38,Value.type "object"] 37 s14 true [] [vr 66,vr 85] false none false)) #[none,none,Option.some (vs s14 196),Option.some (vs s14 204),Option.some (Value.builtin "object.__new__"),Option.some (Value.bool true)])
noncomputable def o49 (P : Params) : Obj := dob [de P s16 262 (vs s4 194),de P s17 264 (vs s30 263),de P s18 266 (vi 16 265),de P s19 273 (vr 82),de P s20 274 (vr 83)] 5
noncomputable def o50:Obj:=(Obj.mk vz none (Data.fields #[vi 18 0,vi 4 0,vr 81]) #[])
noncomputable def o51:Obj:=cob [vs s30 257,vs s30 258,vs s1 259,vi 16 0,vi 0 0,vi 0 0,vi 0 0,vi 0 0,vr 72,Value.bool false,vi 181 0,vr 73,vz,vz,vz,vz,vi 260 0,vi 16 0,vs s1 261]
noncomputable def o52:Obj:=(Obj.mk (Value.type "frame") none Data.plain #[Option.some (vr 74),Option.some (vr 3),Option.some (vr 71),none,Option.some (vs s4 194),none,Option.some (vr 0)])
noncomputable def o53:Obj:=tob [vs s21 270] 0
noncomputable def o54:Obj:=fob vz s19 s31 (clsS 4 0) (scopeOf (clsS 45 14)) 0 vz vz 0
noncomputable def o55:Obj:=cob [vs s19 267,vs s31 268,vs s1 269,vi 18 0,vi 1 0,vi 0 0,vi 0 0,vi 3 0,vr 76,Value.bool true,vi 181 0,vr 77,vz,vr 78,vr 79,vr 80,vi 271 0,vi 18 0,vs s1 272]
noncomputable def o56:Obj:=fob (Value.type "function") s19 s31 (clsS 4 0) (scopeOf (clsS 45 14)) 3 (vs s4 194) (vr 81) 0
noncomputable def o57 (P : Params) : Obj := dob [de P s16 262 (vs s4 194),de P s18 266 (vi 16 265),de P s19 273 (vr 82),de P s20 274 (vr 83),de P s5 275 vz] 2
noncomputable def o58:Obj:=(Obj.mk (Value.type "type") none (Data.cls (ClassData.mk s30 [vr 38] [vr 85,vr 38,Value.type "object"] 84 s30 true [] [] false none false)) #[Option.some (vr 69),none,Option.some (vs s30 255),Option.some (vs s30 263),Option.some (Value.builtin "object.__new__"),Option.some (Value.bool true)])
noncomputable def o59:Obj:=(Obj.mk (Value.type "super") none (Data.fields #[vr 85,vr 85,vr 85]) #[])
noncomputable def o60:Obj:=(Obj.mk (Value.type "builtin_function_or_method") none (Data.fields #[Value.builtin "object.__init_subclass__",vr 85]) #[])
noncomputable def t2 (P : Params) : BT := (bn (boot_o_0 P) (bn (boot_o_1 P) (bn (o46 P) (bn (boot_o_7 P) (bn o0 (bn o15 (bl o40) bz) (bn o30 (bl o0) bz)) (bn o10 (bn o21 (bl (o49 P)) bz) (bn o35 (bl o60) bz))) (bn o0 (bn o7 (bn o18 (bl o44) bz) (bn o1 (bl o0) bz)) (bn o13 (bn o28 (bl o52) bz) (bl o37)))) (bn (boot_o_5 P) (bn (boot_o_9 P) (bn o6 (bn o16 (bl (o42 P)) bz) (bn o32 (bl o55) bz)) (bn o0 (bn o23 (bl o50) bz) (bl o0))) (bn o2 (bn o9 (bn (o19 P) (bl o28) bz) (bn o0 (bl o58) bz)) (bn o0 (bn (o29 P) (bl o1) bz) (bl o38))))) (bn (boot_o_2 P) (bn (boot_o_4 P) (bn (boot_o_8 P) (bn o1 (bn o0 (bl o41) bz) (bn o31 (bl o54) bz)) (bn (o11 P) (bn o22 (bl o0) bz) (bl o36))) (bn o47 (bn o8 (bn o0 (bl o45) bz) (bn o33 (bl (o57 P)) bz)) (bn o14 (bn o10 (bl o0) bz) (bl o0)))) (bn (boot_o_6 P) (bn (boot_o_10 P) (bn o0 (bn o17 (bl o43) bz) (bn o0 (bl o56) bz)) (bn o12 (bn o24 (bl o51) bz) (bl o1))) (bn o3 (bn o0 (bn o48 (bl o10) bz) (bn o34 (bl o59) bz)) (bn o1 (bn o0 (bl o53) bz) (bl o39))))))
noncomputable def sts2 : List Stmt := [topS 4]
noncomputable def o61 (P : Params) : Obj := dob [de P s3 165 (vs s4 194),de P s5 166 vz,de P s6 167 vz,de P s7 168 (Value.builtin "__main__.__loader__#opaque"),de P s8 169 vz,de P s9 170 (vr 6),de P s10 171 (vr 4),de P s11 173 (vs s1 172),de P s12 174 vz,de P s13 193 (vr 21),de P s14 222 (vr 38),de P s25 254 (vr 66),de P s30 277 (vr 85),de P s32 309 (vr 111)] 14
noncomputable def o62:Obj:=(Obj.mk vz none (Data.fields #[vi 1 0,vi 0 0,vr 20,vi 5 0,vi 0 0,vr 27,vi 9 0,vi 0 0,vr 48,vi 16 0,vi 0 0,vr 74,vi 20 0,vi 0 0,vr 93]) #[])
noncomputable def o63:Obj:=(Obj.mk (Value.type "type") none (Data.cls (ClassData.mk s14 [Value.type "object"] [vr 38,Value.type "object"] 37 s14 true [] [vr 66,vr 85,vr 111] false none false)) #[none,none,Option.some (vs s14 196),Option.some (vs s14 204),Option.some (Value.builtin "object.__new__"),Option.some (Value.bool true)])
noncomputable def o64 (P : Params) : Obj := dob [de P s16 285 (vs s4 194),de P s17 287 (vs s32 286),de P s18 289 (vi 20 288),de P s26 297 (vr 101),de P s19 304 (vr 108),de P s20 306 (vr 109)] 6
noncomputable def o65:Obj:=(Obj.mk vz none (Data.fields #[vi 22 0,vi 4 0,vr 100,vi 25 0,vi 4 0,vr 107]) #[])
noncomputable def o66:Obj:=cob [vs s32 280,vs s32 281,vs s1 282,vi 20 0,vi 0 0,vi 0 0,vi 0 0,vi 0 0,vr 91,Value.bool false,vi 181 0,vr 92,vz,vz,vz,vz,vi 283 0,vi 20 0,vs s1 284]
noncomputable def o67:Obj:=(Obj.mk (Value.type "frame") none Data.plain #[Option.some (vr 93),Option.some (vr 3),Option.some (vr 90),none,Option.some (vs s4 194),none,Option.some (vr 0)])
noncomputable def o68:Obj:=tob [vs s21 293,vs s33 294] 0
noncomputable def o69:Obj:=fob vz s26 s34 (clsS 5 0) (scopeOf (clsS 7 0)) 0 vz vz 0
noncomputable def o70:Obj:=cob [vs s26 290,vs s34 291,vs s1 292,vi 22 0,vi 2 0,vi 0 0,vi 0 0,vi 3 0,vr 95,Value.bool true,vi 181 0,vr 96,vz,vr 97,vr 98,vr 99,vi 295 0,vi 22 0,vs s1 296]
noncomputable def o71:Obj:=fob (Value.type "function") s26 s34 (clsS 5 0) (scopeOf (clsS 7 0)) 3 (vs s4 194) (vr 100) 0
noncomputable def o72:Obj:=tob [vs s21 301] 0
noncomputable def o73:Obj:=fob vz s19 s35 (clsS 5 1) (scopeOf (clsS 45 14)) 0 vz vz 0
noncomputable def o74:Obj:=cob [vs s19 298,vs s35 299,vs s1 300,vi 25 0,vi 1 0,vi 0 0,vi 0 0,vi 3 0,vr 102,Value.bool true,vi 181 0,vr 103,vz,vr 104,vr 105,vr 106,vi 302 0,vi 25 0,vs s1 303]
noncomputable def o75:Obj:=fob (Value.type "function") s19 s35 (clsS 5 1) (scopeOf (clsS 45 14)) 3 (vs s4 194) (vr 107) 0
noncomputable def o76:Obj:=tob [vs s33 305] 0
noncomputable def o77 (P : Params) : Obj := dob [de P s16 285 (vs s4 194),de P s18 289 (vi 20 288),de P s26 297 (vr 101),de P s19 304 (vr 108),de P s20 306 (vr 109),de P s5 307 vz] 2
noncomputable def o78:Obj:=(Obj.mk (Value.type "type") none (Data.cls (ClassData.mk s32 [vr 38] [vr 111,vr 38,Value.type "object"] 110 s32 true [] [] false none false)) #[Option.some (vr 88),none,Option.some (vs s32 278),Option.some (vs s32 286),Option.some (Value.builtin "object.__new__"),Option.some (Value.bool true)])
noncomputable def o79:Obj:=(Obj.mk (Value.type "super") none (Data.fields #[vr 111,vr 111,vr 111]) #[])
noncomputable def o80:Obj:=(Obj.mk (Value.type "builtin_function_or_method") none (Data.fields #[Value.builtin "object.__init_subclass__",vr 111]) #[])
noncomputable def t3 (P : Params) : BT := (bn (boot_o_0 P) (bn (boot_o_1 P) (bn (o61 P) (bn (boot_o_7 P) (bn o0 (bn o15 (bl o40) (bl o0)) (bn o30 (bl o0) (bl o78))) (bn o10 (bn o21 (bl (o49 P)) (bl o1)) (bn o35 (bl o60) bz))) (bn o0 (bn o7 (bn o18 (bl o44) (bl o69)) (bn o1 (bl o0) bz)) (bn o13 (bn o28 (bl o52) (bl o74)) (bn o37 (bl o0) bz)))) (bn (boot_o_5 P) (bn (boot_o_9 P) (bn o6 (bn o16 (bl (o42 P)) (bl o68)) (bn o32 (bl o55) (bl o80))) (bn o0 (bn o23 (bl o50) (bl o0)) (bn o0 (bl o10) bz))) (bn o2 (bn o9 (bn (o19 P) (bl o28) (bl o71)) (bn o0 (bl o58) bz)) (bn o0 (bn (o29 P) (bl o1) (bl o76)) (bn o38 (bl o66) bz))))) (bn (boot_o_2 P) (bn (boot_o_4 P) (bn (boot_o_8 P) (bn o1 (bn o0 (bl o41) (bl o1)) (bn o31 (bl o54) (bl o79))) (bn (o11 P) (bn o22 (bl o0) (bl o72)) (bn o36 (bl o28) bz))) (bn o62 (bn o8 (bn o0 (bl o45) (bl o70)) (bn o33 (bl (o57 P)) bz)) (bn o14 (bn o10 (bl o0) (bl o75)) (bn o0 (bl o65) bz)))) (bn (boot_o_6 P) (bn (boot_o_10 P) (bn o0 (bn o17 (bl o43) (bl o0)) (bn o0 (bl o56) bz)) (bn o12 (bn o24 (bl o51) (bl o73)) (bn o1 (bl (o64 P)) bz))) (bn o3 (bn o0 (bn o63 (bl o10) (bl o0)) (bn o34 (bl o59) bz)) (bn o1 (bn o0 (bl o53) (bl (o77 P))) (bn o39 (bl o67) bz))))))
noncomputable def sts3 : List Stmt := [topS 5]
noncomputable def o81 (P : Params) : Obj := dob [de P s3 165 (vs s4 194),de P s5 166 vz,de P s6 167 vz,de P s7 168 (Value.builtin "__main__.__loader__#opaque"),de P s8 169 vz,de P s9 170 (vr 6),de P s10 171 (vr 4),de P s11 173 (vs s1 172),de P s12 174 vz,de P s13 193 (vr 21),de P s14 222 (vr 38),de P s25 254 (vr 66),de P s30 277 (vr 85),de P s32 309 (vr 111),de P s36 341 (vr 137)] 15
noncomputable def o82:Obj:=(Obj.mk vz none (Data.fields #[vi 1 0,vi 0 0,vr 20,vi 5 0,vi 0 0,vr 27,vi 9 0,vi 0 0,vr 48,vi 16 0,vi 0 0,vr 74,vi 20 0,vi 0 0,vr 93,vi 27 0,vi 0 0,vr 119]) #[])
noncomputable def o83:Obj:=(Obj.mk (Value.type "type") none (Data.cls (ClassData.mk s14 [Value.type "object"] [vr 38,Value.type "object"] 37 s14 true [] [vr 66,vr 85,vr 111,vr 137] false none false)) #[none,none,Option.some (vs s14 196),Option.some (vs s14 204),Option.some (Value.builtin "object.__new__"),Option.some (Value.bool true)])
noncomputable def o84 (P : Params) : Obj := dob [de P s16 317 (vs s4 194),de P s17 319 (vs s36 318),de P s18 321 (vi 27 320),de P s26 329 (vr 127),de P s19 336 (vr 134),de P s20 338 (vr 135)] 6
noncomputable def o85:Obj:=(Obj.mk vz none (Data.fields #[vi 29 0,vi 4 0,vr 126,vi 32 0,vi 4 0,vr 133]) #[])
noncomputable def o86:Obj:=cob [vs s36 312,vs s36 313,vs s1 314,vi 27 0,vi 0 0,vi 0 0,vi 0 0,vi 0 0,vr 117,Value.bool false,vi 181 0,vr 118,vz,vz,vz,vz,vi 315 0,vi 27 0,vs s1 316]
noncomputable def o87:Obj:=(Obj.mk (Value.type "frame") none Data.plain #[Option.some (vr 119),Option.some (vr 3),Option.some (vr 116),none,Option.some (vs s4 194),none,Option.some (vr 0)])
noncomputable def o88:Obj:=tob [vs s21 325,vs s33 326] 0
noncomputable def o89:Obj:=fob vz s26 s37 (clsS 6 0) (scopeOf (clsS 7 0)) 0 vz vz 0
noncomputable def o90:Obj:=cob [vs s26 322,vs s37 323,vs s1 324,vi 29 0,vi 2 0,vi 0 0,vi 0 0,vi 3 0,vr 121,Value.bool true,vi 181 0,vr 122,vz,vr 123,vr 124,vr 125,vi 327 0,vi 29 0,vs s1 328]
noncomputable def o91:Obj:=fob (Value.type "function") s26 s37 (clsS 6 0) (scopeOf (clsS 7 0)) 3 (vs s4 194) (vr 126) 0
noncomputable def o92:Obj:=tob [vs s21 333] 0
noncomputable def o93:Obj:=fob vz s19 s38 (clsS 6 1) (scopeOf (clsS 45 14)) 0 vz vz 0
noncomputable def o94:Obj:=cob [vs s19 330,vs s38 331,vs s1 332,vi 32 0,vi 1 0,vi 0 0,vi 0 0,vi 3 0,vr 128,Value.bool true,vi 181 0,vr 129,vz,vr 130,vr 131,vr 132,vi 334 0,vi 32 0,vs s1 335]
noncomputable def o95:Obj:=fob (Value.type "function") s19 s38 (clsS 6 1) (scopeOf (clsS 45 14)) 3 (vs s4 194) (vr 133) 0
noncomputable def o96:Obj:=tob [vs s33 337] 0
noncomputable def o97 (P : Params) : Obj := dob [de P s16 317 (vs s4 194),de P s18 321 (vi 27 320),de P s26 329 (vr 127),de P s19 336 (vr 134),de P s20 338 (vr 135),de P s5 339 vz] 2
noncomputable def o98:Obj:=(Obj.mk (Value.type "type") none (Data.cls (ClassData.mk s36 [vr 38] [vr 137,vr 38,Value.type "object"] 136 s36 true [] [] false none false)) #[Option.some (vr 114),none,Option.some (vs s36 310),Option.some (vs s36 318),Option.some (Value.builtin "object.__new__"),Option.some (Value.bool true)])
noncomputable def o99:Obj:=(Obj.mk (Value.type "super") none (Data.fields #[vr 137,vr 137,vr 137]) #[])
noncomputable def o100:Obj:=(Obj.mk (Value.type "builtin_function_or_method") none (Data.fields #[Value.builtin "object.__init_subclass__",vr 137]) #[])
noncomputable def t4 (P : Params) : BT := (bn (boot_o_0 P) (bn (boot_o_1 P) (bn (o81 P) (bn (boot_o_7 P) (bn o0 (bn o15 (bn o40 (bl o91) bz) (bl o0)) (bn o30 (bl o0) (bl o78))) (bn o10 (bn o21 (bn (o49 P) (bl o96) bz) (bl o1)) (bn o35 (bl o60) (bl o86)))) (bn o0 (bn o7 (bn o18 (bn o44 (bl o0) bz) (bl o69)) (bn o1 (bl o0) (bl o10))) (bn o13 (bn o28 (bn o52 (bl o100) bz) (bl o74)) (bn o37 (bl o0) (bl o88))))) (bn (boot_o_5 P) (bn (boot_o_9 P) (bn o6 (bn o16 (bn (o42 P) (bl o1) bz) (bl o68)) (bn o32 (bl o55) (bl o80))) (bn o0 (bn o23 (bn o50 (bl o98) bz) (bl o0)) (bn o0 (bl o10) (bl o0)))) (bn o2 (bn o9 (bn (o19 P) (bn o28 (bl o94) bz) (bl o71)) (bn o0 (bl o58) (bl o0))) (bn o0 (bn (o29 P) (bl o1) (bl o76)) (bn o38 (bl o66) (bl o89)))))) (bn (boot_o_2 P) (bn (boot_o_4 P) (bn (boot_o_8 P) (bn o1 (bn o0 (bn o41 (bl o0) bz) (bl o1)) (bn o31 (bl o54) (bl o79))) (bn (o11 P) (bn o22 (bn o0 (bl (o97 P)) bz) (bl o72)) (bn o36 (bl o28) (bl o87)))) (bn o82 (bn o8 (bn o0 (bn o45 (bl o93) bz) (bl o70)) (bn o33 (bl (o57 P)) (bl (o84 P)))) (bn o14 (bn o10 (bl o0) (bl o75)) (bn o0 (bl o65) (bl o0))))) (bn (boot_o_6 P) (bn (boot_o_10 P) (bn o0 (bn o17 (bn o43 (bl o92) bz) (bl o0)) (bn o0 (bl o56) (bl o28))) (bn o12 (bn o24 (bn o51 (bl o99) bz) (bl o73)) (bn o1 (bl (o64 P)) (bl o1)))) (bn o3 (bn o0 (bn o83 (bn o10 (bl o95) bz) (bl o0)) (bn o34 (bl o59) (bl o85))) (bn o1 (bn o0 (bl o53) (bl (o77 P))) (bn o39 (bl o67) (bl o90)))))))
noncomputable def sts4 : List Stmt := [topS 6]
noncomputable def o101 (P : Params) : Obj := dob [de P s3 165 (vs s4 194),de P s5 166 vz,de P s6 167 vz,de P s7 168 (Value.builtin "__main__.__loader__#opaque"),de P s8 169 vz,de P s9 170 (vr 6),de P s10 171 (vr 4),de P s11 173 (vs s1 172),de P s12 174 vz,de P s13 193 (vr 21),de P s14 222 (vr 38),de P s25 254 (vr 66),de P s30 277 (vr 85),de P s32 309 (vr 111),de P s36 341 (vr 137),de P s39 373 (vr 163)] 16
noncomputable def o102:Obj:=(Obj.mk vz none (Data.fields #[vi 1 0,vi 0 0,vr 20,vi 5 0,vi 0 0,vr 27,vi 9 0,vi 0 0,vr 48,vi 16 0,vi 0 0,vr 74,vi 20 0,vi 0 0,vr 93,vi 27 0,vi 0 0,vr 119,vi 34 0,vi 0 0,vr 145]) #[])
noncomputable def o103:Obj:=(Obj.mk (Value.type "type") none (Data.cls (ClassData.mk s14 [Value.type "object"] [vr 38,Value.type "object"] 37 s14 true [] [vr 66,vr 85,vr 111,vr 137,vr 163] false none false)) #[none,none,Option.some (vs s14 196),Option.some (vs s14 204),Option.some (Value.builtin "object.__new__"),Option.some (Value.bool true)])
noncomputable def o104 (P : Params) : Obj := dob [de P s16 349 (vs s4 194),de P s17 351 (vs s39 350),de P s18 353 (vi 34 352),de P s26 361 (vr 153),de P s19 368 (vr 160),de P s20 370 (vr 161)] 6
noncomputable def o105:Obj:=(Obj.mk vz none (Data.fields #[vi 36 0,vi 4 0,vr 152,vi 39 0,vi 4 0,vr 159]) #[])
noncomputable def o106:Obj:=cob [vs s39 344,vs s39 345,vs s1 346,vi 34 0,vi 0 0,vi 0 0,vi 0 0,vi 0 0,vr 143,Value.bool false,vi 181 0,vr 144,vz,vz,vz,vz,vi 347 0,vi 34 0,vs s1 348]
noncomputable def o107:Obj:=(Obj.mk (Value.type "frame") none Data.plain #[Option.some (vr 145),Option.some (vr 3),Option.some (vr 142),none,Option.some (vs s4 194),none,Option.some (vr 0)])
noncomputable def o108:Obj:=tob [vs s21 357,vs s33 358] 0
noncomputable def o109:Obj:=fob vz s26 s40 (clsS 7 0) (scopeOf (clsS 7 0)) 0 vz vz 0
noncomputable def o110:Obj:=cob [vs s26 354,vs s40 355,vs s1 356,vi 36 0,vi 2 0,vi 0 0,vi 0 0,vi 3 0,vr 147,Value.bool true,vi 181 0,vr 148,vz,vr 149,vr 150,vr 151,vi 359 0,vi 36 0,vs s1 360]
noncomputable def o111:Obj:=fob (Value.type "function") s26 s40 (clsS 7 0) (scopeOf (clsS 7 0)) 3 (vs s4 194) (vr 152) 0
noncomputable def o112:Obj:=tob [vs s21 365] 0
noncomputable def o113:Obj:=fob vz s19 s41 (clsS 7 1) (scopeOf (clsS 45 14)) 0 vz vz 0
noncomputable def o114:Obj:=cob [vs s19 362,vs s41 363,vs s1 364,vi 39 0,vi 1 0,vi 0 0,vi 0 0,vi 3 0,vr 154,Value.bool true,vi 181 0,vr 155,vz,vr 156,vr 157,vr 158,vi 366 0,vi 39 0,vs s1 367]
noncomputable def o115:Obj:=fob (Value.type "function") s19 s41 (clsS 7 1) (scopeOf (clsS 45 14)) 3 (vs s4 194) (vr 159) 0
noncomputable def o116:Obj:=tob [vs s33 369] 0
noncomputable def o117 (P : Params) : Obj := dob [de P s16 349 (vs s4 194),de P s18 353 (vi 34 352),de P s26 361 (vr 153),de P s19 368 (vr 160),de P s20 370 (vr 161),de P s5 371 vz] 2
noncomputable def o118:Obj:=(Obj.mk (Value.type "type") none (Data.cls (ClassData.mk s39 [vr 38] [vr 163,vr 38,Value.type "object"] 162 s39 true [] [] false none false)) #[Option.some (vr 140),none,Option.some (vs s39 342),Option.some (vs s39 350),Option.some (Value.builtin "object.__new__"),Option.some (Value.bool true)])
noncomputable def o119:Obj:=(Obj.mk (Value.type "super") none (Data.fields #[vr 163,vr 163,vr 163]) #[])
noncomputable def o120:Obj:=(Obj.mk (Value.type "builtin_function_or_method") none (Data.fields #[Value.builtin "object.__init_subclass__",vr 163]) #[])
noncomputable def t5 (P : Params) : BT := (bn (boot_o_0 P) (bn (boot_o_1 P) (bn (o101 P) (bn (boot_o_7 P) (bn o0 (bn o15 (bn o40 (bl o91) bz) (bn o0 (bl o114) bz)) (bn o30 (bn o0 (bl o0) bz) (bl o78))) (bn o10 (bn o21 (bn (o49 P) (bl o96) bz) (bl o1)) (bn o35 (bn o60 (bl o109) bz) (bl o86)))) (bn o0 (bn o7 (bn o18 (bn o44 (bl o0) bz) (bn o69 (bl o118) bz)) (bn o1 (bn o0 (bl o0) bz) (bl o10))) (bn o13 (bn o28 (bn o52 (bl o100) bz) (bl o74)) (bn o37 (bn o0 (bl o1) bz) (bl o88))))) (bn (boot_o_5 P) (bn (boot_o_9 P) (bn o6 (bn o16 (bn (o42 P) (bl o1) bz) (bn o68 (bl o116) bz)) (bn o32 (bn o55 (bl o106) bz) (bl o80))) (bn o0 (bn o23 (bn o50 (bl o98) bz) (bl o0)) (bn o0 (bn o10 (bl o111) bz) (bl o0)))) (bn o2 (bn o9 (bn (o19 P) (bn o28 (bl o94) bz) (bn o71 (bl o120) bz)) (bn o0 (bn o58 (bl o108) bz) (bl o0))) (bn o0 (bn (o29 P) (bn o1 (bl o10) bz) (bl o76)) (bn o38 (bn o66 (bl o0) bz) (bl o89)))))) (bn (boot_o_2 P) (bn (boot_o_4 P) (bn (boot_o_8 P) (bn o1 (bn o0 (bn o41 (bl o0) bz) (bn o1 (bl o115) bz)) (bn o31 (bn o54 (bl o105) bz) (bl o79))) (bn (o11 P) (bn o22 (bn o0 (bl (o97 P)) bz) (bl o72)) (bn o36 (bn o28 (bl o110) bz) (bl o87)))) (bn o102 (bn o8 (bn o0 (bn o45 (bl o93) bz) (bn o70 (bl o119) bz)) (bn o33 (bn (o57 P) (bl o1) bz) (bl (o84 P)))) (bn o14 (bn o10 (bn o0 (bl o28) bz) (bl o75)) (bn o0 (bn o65 (bl o112) bz) (bl o0))))) (bn (boot_o_6 P) (bn (boot_o_10 P) (bn o0 (bn o17 (bn o43 (bl o92) bz) (bn o0 (bl (o117 P)) bz)) (bn o0 (bn o56 (bl o107) bz) (bl o28))) (bn o12 (bn o24 (bn o51 (bl o99) bz) (bl o73)) (bn o1 (bn (o64 P) (bl o0) bz) (bl o1)))) (bn o3 (bn o0 (bn o103 (bn o10 (bl o95) bz) (bl o0)) (bn o34 (bn o59 (bl o0) bz) (bl o85))) (bn o1 (bn o0 (bn o53 (bl (o104 P)) bz) (bl (o77 P))) (bn o39 (bn o67 (bl o113) bz) (bl o90)))))))
noncomputable def sts5 : List Stmt := [topS 7]
noncomputable def o121 (P : Params) : Obj := dob [de P s3 165 (vs s4 194),de P s5 166 vz,de P s6 167 vz,de P s7 168 (Value.builtin "__main__.__loader__#opaque"),de P s8 169 vz,de P s9 170 (vr 6),de P s10 171 (vr 4),de P s11 173 (vs s1 172),de P s12 174 vz,de P s13 193 (vr 21),de P s14 222 (vr 38),de P s25 254 (vr 66),de P s30 277 (vr 85),de P s32 309 (vr 111),de P s36 341 (vr 137),de P s39 373 (vr 163),de P s42 407 (vr 189)] 17
noncomputable def o122:Obj:=(Obj.mk vz none (Data.fields #[vi 1 0,vi 0 0,vr 20,vi 5 0,vi 0 0,vr 27,vi 9 0,vi 0 0,vr 48,vi 16 0,vi 0 0,vr 74,vi 20 0,vi 0 0,vr 93,vi 27 0,vi 0 0,vr 119,vi 34 0,vi 0 0,vr 145,vi 41 0,vi 0 0,vr 171]) #[])
noncomputable def o123:Obj:=(Obj.mk (Value.type "type") none (Data.cls (ClassData.mk s14 [Value.type "object"] [vr 38,Value.type "object"] 37 s14 true [] [vr 66,vr 85,vr 111,vr 137,vr 163,vr 189] false none false)) #[none,none,Option.some (vs s14 196),Option.some (vs s14 204),Option.some (Value.builtin "object.__new__"),Option.some (Value.bool true)])
noncomputable def o124 (P : Params) : Obj := dob [de P s16 381 (vs s4 194),de P s17 383 (vs s42 382),de P s18 385 (vi 41 384),de P s26 394 (vr 179),de P s19 401 (vr 186),de P s20 404 (vr 187)] 6
noncomputable def o125:Obj:=(Obj.mk vz none (Data.fields #[vi 43 0,vi 4 0,vr 178,vi 47 0,vi 4 0,vr 185]) #[])
noncomputable def o126:Obj:=cob [vs s42 376,vs s42 377,vs s1 378,vi 41 0,vi 0 0,vi 0 0,vi 0 0,vi 0 0,vr 169,Value.bool false,vi 181 0,vr 170,vz,vz,vz,vz,vi 379 0,vi 41 0,vs s1 380]
noncomputable def o127:Obj:=(Obj.mk (Value.type "frame") none Data.plain #[Option.some (vr 171),Option.some (vr 3),Option.some (vr 168),none,Option.some (vs s4 194),none,Option.some (vr 0)])
noncomputable def o128:Obj:=tob [vs s21 389,vs s33 390,vs s43 391] 0
noncomputable def o129:Obj:=fob vz s26 s44 (clsS 8 0) (scopeOf (clsS 8 0)) 0 vz vz 0
noncomputable def o130:Obj:=cob [vs s26 386,vs s44 387,vs s1 388,vi 43 0,vi 3 0,vi 0 0,vi 0 0,vi 3 0,vr 173,Value.bool true,vi 181 0,vr 174,vz,vr 175,vr 176,vr 177,vi 392 0,vi 43 0,vs s1 393]
noncomputable def o131:Obj:=fob (Value.type "function") s26 s44 (clsS 8 0) (scopeOf (clsS 8 0)) 3 (vs s4 194) (vr 178) 0
noncomputable def o132:Obj:=tob [vs s21 398] 0
noncomputable def o133:Obj:=fob vz s19 s45 (clsS 8 1) (scopeOf (clsS 45 14)) 0 vz vz 0
noncomputable def o134:Obj:=cob [vs s19 395,vs s45 396,vs s1 397,vi 47 0,vi 1 0,vi 0 0,vi 0 0,vi 3 0,vr 180,Value.bool true,vi 181 0,vr 181,vz,vr 182,vr 183,vr 184,vi 399 0,vi 47 0,vs s1 400]
noncomputable def o135:Obj:=fob (Value.type "function") s19 s45 (clsS 8 1) (scopeOf (clsS 45 14)) 3 (vs s4 194) (vr 185) 0
noncomputable def o136:Obj:=tob [vs s33 402,vs s43 403] 0
noncomputable def o137 (P : Params) : Obj := dob [de P s16 381 (vs s4 194),de P s18 385 (vi 41 384),de P s26 394 (vr 179),de P s19 401 (vr 186),de P s20 404 (vr 187),de P s5 405 vz] 2
noncomputable def o138:Obj:=(Obj.mk (Value.type "type") none (Data.cls (ClassData.mk s42 [vr 38] [vr 189,vr 38,Value.type "object"] 188 s42 true [] [] false none false)) #[Option.some (vr 166),none,Option.some (vs s42 374),Option.some (vs s42 382),Option.some (Value.builtin "object.__new__"),Option.some (Value.bool true)])
noncomputable def o139:Obj:=(Obj.mk (Value.type "super") none (Data.fields #[vr 189,vr 189,vr 189]) #[])
noncomputable def o140:Obj:=(Obj.mk (Value.type "builtin_function_or_method") none (Data.fields #[Value.builtin "object.__init_subclass__",vr 189]) #[])
noncomputable def t6 (P : Params) : BT := (bn (boot_o_0 P) (bn (boot_o_1 P) (bn (o121 P) (bn (boot_o_7 P) (bn o0 (bn o15 (bn o40 (bl o91) (bl o140)) (bn o0 (bl o114) bz)) (bn o30 (bn o0 (bl o0) bz) (bn o78 (bl o128) bz))) (bn o10 (bn o21 (bn (o49 P) (bl o96) bz) (bn o1 (bl o10) bz)) (bn o35 (bn o60 (bl o109) bz) (bn o86 (bl o0) bz)))) (bn o0 (bn o7 (bn o18 (bn o44 (bl o0) bz) (bn o69 (bl o118) bz)) (bn o1 (bn o0 (bl o0) bz) (bn o10 (bl o131) bz))) (bn o13 (bn o28 (bn o52 (bl o100) bz) (bn o74 (bl o126) bz)) (bn o37 (bn o0 (bl o1) bz) (bn o88 (bl o136) bz))))) (bn (boot_o_5 P) (bn (boot_o_9 P) (bn o6 (bn o16 (bn (o42 P) (bl o1) bz) (bn o68 (bl o116) bz)) (bn o32 (bn o55 (bl o106) bz) (bn o80 (bl o129) bz))) (bn o0 (bn o23 (bn o50 (bl o98) bz) (bn o0 (bl o0) bz)) (bn o0 (bn o10 (bl o111) bz) (bn o0 (bl o134) bz)))) (bn o2 (bn o9 (bn (o19 P) (bn o28 (bl o94) bz) (bn o71 (bl o120) bz)) (bn o0 (bn o58 (bl o108) bz) (bn o0 (bl o1) bz))) (bn o0 (bn (o29 P) (bn o1 (bl o10) bz) (bn o76 (bl o0) bz)) (bn o38 (bn o66 (bl o0) bz) (bn o89 (bl o138) bz)))))) (bn (boot_o_2 P) (bn (boot_o_4 P) (bn (boot_o_8 P) (bn o1 (bn o0 (bn o41 (bl o0) bz) (bn o1 (bl o115) bz)) (bn o31 (bn o54 (bl o105) bz) (bn o79 (bl o0) bz))) (bn (o11 P) (bn o22 (bn o0 (bl (o97 P)) bz) (bn o72 (bl (o124 P)) bz)) (bn o36 (bn o28 (bl o110) bz) (bn o87 (bl o133) bz)))) (bn o122 (bn o8 (bn o0 (bn o45 (bl o93) bz) (bn o70 (bl o119) bz)) (bn o33 (bn (o57 P) (bl o1) bz) (bn (o84 P) (bl o0) bz))) (bn o14 (bn o10 (bn o0 (bl o28) bz) (bn o75 (bl o127) bz)) (bn o0 (bn o65 (bl o112) bz) (bn o0 (bl (o137 P)) bz))))) (bn (boot_o_6 P) (bn (boot_o_10 P) (bn o0 (bn o17 (bn o43 (bl o92) bz) (bn o0 (bl (o117 P)) bz)) (bn o0 (bn o56 (bl o107) bz) (bn o28 (bl o130) bz))) (bn o12 (bn o24 (bn o51 (bl o99) bz) (bn o73 (bl o125) bz)) (bn o1 (bn (o64 P) (bl o0) bz) (bn o1 (bl o135) bz)))) (bn o3 (bn o0 (bn o123 (bn o10 (bl o95) bz) (bn o0 (bl o28) bz)) (bn o34 (bn o59 (bl o0) bz) (bn o85 (bl o132) bz))) (bn o1 (bn o0 (bn o53 (bl (o104 P)) bz) (bn (o77 P) (bl o1) bz)) (bn o39 (bn o67 (bl o113) bz) (bn o90 (bl o139) bz)))))))
noncomputable def sts6 : List Stmt := [topS 8]
noncomputable def o141 (P : Params) : Obj := dob [de P s3 165 (vs s46 431),de P s5 166 vz,de P s6 167 vz,de P s7 168 (Value.builtin "__main__.__loader__#opaque"),de P s8 169 vz,de P s9 170 (vr 6),de P s10 171 (vr 4),de P s11 173 (vs s1 172),de P s12 174 vz,de P s13 193 (vr 21),de P s14 222 (vr 38),de P s25 254 (vr 66),de P s30 277 (vr 85),de P s32 309 (vr 111),de P s36 341 (vr 137),de P s39 373 (vr 163),de P s42 407 (vr 189),de P s47 430 (vr 208),de P s48 436 (vr 211)] 19
noncomputable def o142:Obj:=(Obj.mk vz none (Data.fields #[vi 1 0,vi 0 0,vr 20,vi 5 0,vi 0 0,vr 27,vi 9 0,vi 0 0,vr 48,vi 16 0,vi 0 0,vr 74,vi 20 0,vi 0 0,vr 93,vi 27 0,vi 0 0,vr 119,vi 34 0,vi 0 0,vr 145,vi 41 0,vi 0 0,vr 171,vi 49 0,vi 0 0,vr 197]) #[])
noncomputable def o143:Obj:=(Obj.mk (Value.type "type") none (Data.cls (ClassData.mk s14 [Value.type "object"] [vr 38,Value.type "object"] 37 s14 true [] [vr 66,vr 85,vr 111,vr 137,vr 163,vr 189,vr 208] false none false)) #[none,none,Option.some (vs s14 196),Option.some (vs s14 204),Option.some (Value.builtin "object.__new__"),Option.some (Value.bool true)])
noncomputable def o144 (P : Params) : Obj := dob [de P s16 415 (vs s4 194),de P s17 417 (vs s47 416),de P s18 419 (vi 49 418),de P s19 426 (vr 205),de P s20 427 (vr 206)] 5
noncomputable def o145:Obj:=(Obj.mk vz none (Data.fields #[vi 51 0,vi 4 0,vr 204]) #[])
noncomputable def o146:Obj:=cob [vs s47 410,vs s47 411,vs s1 412,vi 49 0,vi 0 0,vi 0 0,vi 0 0,vi 0 0,vr 195,Value.bool false,vi 181 0,vr 196,vz,vz,vz,vz,vi 413 0,vi 49 0,vs s1 414]
noncomputable def o147:Obj:=(Obj.mk (Value.type "frame") none Data.plain #[Option.some (vr 197),Option.some (vr 3),Option.some (vr 194),none,Option.some (vs s4 194),none,Option.some (vr 0)])
noncomputable def o148:Obj:=tob [vs s21 423] 0
noncomputable def o149:Obj:=fob vz s19 s49 (clsS 9 0) (scopeOf (clsS 45 14)) 0 vz vz 0
noncomputable def o150:Obj:=cob [vs s19 420,vs s49 421,vs s1 422,vi 51 0,vi 1 0,vi 0 0,vi 0 0,vi 3 0,vr 199,Value.bool true,vi 181 0,vr 200,vz,vr 201,vr 202,vr 203,vi 424 0,vi 51 0,vs s1 425]
noncomputable def o151:Obj:=fob (Value.type "function") s19 s49 (clsS 9 0) (scopeOf (clsS 45 14)) 3 (vs s4 194) (vr 204) 0
noncomputable def o152 (P : Params) : Obj := dob [de P s16 415 (vs s4 194),de P s18 419 (vi 49 418),de P s19 426 (vr 205),de P s20 427 (vr 206),de P s5 428 vz] 2
noncomputable def o153:Obj:=(Obj.mk (Value.type "type") none (Data.cls (ClassData.mk s47 [vr 38] [vr 208,vr 38,Value.type "object"] 207 s47 true [] [] false none false)) #[Option.some (vr 192),none,Option.some (vs s47 408),Option.some (vs s47 416),Option.some (Value.builtin "object.__new__"),Option.some (Value.bool true)])
noncomputable def o154:Obj:=(Obj.mk (Value.type "super") none (Data.fields #[vr 208,vr 208,vr 208]) #[])
noncomputable def o155:Obj:=(Obj.mk (Value.type "builtin_function_or_method") none (Data.fields #[Value.builtin "object.__init_subclass__",vr 208]) #[])
noncomputable def o156:Obj:=tob [vs s50 433,vs s51 434,vs s52 435] 0
noncomputable def t7 (P : Params) : BT := (bn (boot_o_0 P) (bn (boot_o_1 P) (bn (o141 P) (bn (boot_o_7 P) (bn o0 (bn o15 (bn o40 (bl o91) (bl o140)) (bn o0 (bl o114) bz)) (bn o30 (bn o0 (bl o0) (bl (o152 P))) (bn o78 (bl o128) bz))) (bn o10 (bn o21 (bn (o49 P) (bl o96) (bl o0)) (bn o1 (bl o10) bz)) (bn o35 (bn o60 (bl o109) bz) (bn o86 (bl o0) bz)))) (bn o0 (bn o7 (bn o18 (bn o44 (bl o0) (bl o0)) (bn o69 (bl o118) bz)) (bn o1 (bn o0 (bl o0) (bl o156)) (bn o10 (bl o131) bz))) (bn o13 (bn o28 (bn o52 (bl o100) (bl o149)) (bn o74 (bl o126) bz)) (bn o37 (bn o0 (bl o1) bz) (bn o88 (bl o136) bz))))) (bn (boot_o_5 P) (bn (boot_o_9 P) (bn o6 (bn o16 (bn (o42 P) (bl o1) (bl o10)) (bn o68 (bl o116) bz)) (bn o32 (bn o55 (bl o106) (bl o154)) (bn o80 (bl o129) bz))) (bn o0 (bn o23 (bn o50 (bl o98) (bl o148)) (bn o0 (bl o0) bz)) (bn o0 (bn o10 (bl o111) bz) (bn o0 (bl o134) bz)))) (bn o2 (bn o9 (bn (o19 P) (bn o28 (bl o94) (bl o146)) (bn o71 (bl o120) bz)) (bn o0 (bn o58 (bl o108) bz) (bn o0 (bl o1) bz))) (bn o0 (bn (o29 P) (bn o1 (bl o10) (bl o151)) (bn o76 (bl o0) bz)) (bn o38 (bn o66 (bl o0) bz) (bn o89 (bl o138) bz)))))) (bn (boot_o_2 P) (bn (boot_o_4 P) (bn (boot_o_8 P) (bn o1 (bn o0 (bn o41 (bl o0) (bl o28)) (bn o1 (bl o115) bz)) (bn o31 (bn o54 (bl o105) (bl o153)) (bn o79 (bl o0) bz))) (bn (o11 P) (bn o22 (bn o0 (bl (o97 P)) (bl o1)) (bn o72 (bl (o124 P)) bz)) (bn o36 (bn o28 (bl o110) bz) (bn o87 (bl o133) bz)))) (bn o142 (bn o8 (bn o0 (bn o45 (bl o93) (bl o145)) (bn o70 (bl o119) bz)) (bn o33 (bn (o57 P) (bl o1) bz) (bn (o84 P) (bl o0) bz))) (bn o14 (bn o10 (bn o0 (bl o28) (bl o150)) (bn o75 (bl o127) bz)) (bn o0 (bn o65 (bl o112) bz) (bn o0 (bl (o137 P)) bz))))) (bn (boot_o_6 P) (bn (boot_o_10 P) (bn o0 (bn o17 (bn o43 (bl o92) (bl (o144 P))) (bn o0 (bl (o117 P)) bz)) (bn o0 (bn o56 (bl o107) (bl o155)) (bn o28 (bl o130) bz))) (bn o12 (bn o24 (bn o51 (bl o99) (bl o0)) (bn o73 (bl o125) bz)) (bn o1 (bn (o64 P) (bl o0) bz) (bn o1 (bl o135) bz)))) (bn o3 (bn o0 (bn o143 (bn o10 (bl o95) (bl o147)) (bn o0 (bl o28) bz)) (bn o34 (bn o59 (bl o0) bz) (bn o85 (bl o132) bz))) (bn o1 (bn o0 (bn o53 (bl (o104 P)) (bl o0)) (bn (o77 P) (bl o1) bz)) (bn o39 (bn o67 (bl o113) bz) (bn o90 (bl o139) bz)))))))
noncomputable def sts7 : List Stmt := [topS 9,topS 10,topS 11]
noncomputable def o157 (P : Params) : Obj := dob [de P s3 165 (vs s53 505),de P s5 166 vz,de P s6 167 vz,de P s7 168 (Value.builtin "__main__.__loader__#opaque"),de P s8 169 vz,de P s9 170 (vr 6),de P s10 171 (vr 4),de P s11 173 (vs s1 172),de P s12 174 vz,de P s13 193 (vr 21),de P s14 222 (vr 38),de P s25 254 (vr 66),de P s30 277 (vr 85),de P s32 309 (vr 111),de P s36 341 (vr 137),de P s39 373 (vr 163),de P s42 407 (vr 189),de P s47 430 (vr 208),de P s48 436 (vr 211),de P s54 504 (vr 263)] 20
noncomputable def o158:Obj:=(Obj.mk vz none (Data.fields #[vi 1 0,vi 0 0,vr 20,vi 5 0,vi 0 0,vr 27,vi 9 0,vi 0 0,vr 48,vi 16 0,vi 0 0,vr 74,vi 20 0,vi 0 0,vr 93,vi 27 0,vi 0 0,vr 119,vi 34 0,vi 0 0,vr 145,vi 41 0,vi 0 0,vr 171,vi 49 0,vi 0 0,vr 197,vi 55 0,vi 0 0,vr 217]) #[])
noncomputable def o159 (P : Params) : Obj := dob [de P s16 444 (vs s46 431),de P s17 446 (vs s54 445),de P s18 448 (vi 55 447),de P s26 456 (vr 225),de P s55 463 (vr 232),de P s56 471 (vr 239),de P s57 478 (vr 246),de P s58 487 (vr 253),de P s59 495 (vr 260),de P s20 497 (vr 261)] 10
noncomputable def o160:Obj:=(Obj.mk vz none (Data.fields #[vi 57 0,vi 4 0,vr 224,vi 60 0,vi 4 0,vr 231,vi 79 0,vi 4 0,vr 238,vi 86 0,vi 4 0,vr 245,vi 93 0,vi 4 0,vr 252,vi 103 0,vi 4 0,vr 259]) #[])
noncomputable def o161:Obj:=cob [vs s54 439,vs s54 440,vs s1 441,vi 55 0,vi 0 0,vi 0 0,vi 0 0,vi 0 0,vr 215,Value.bool false,vi 181 0,vr 216,vz,vz,vz,vz,vi 442 0,vi 55 0,vs s1 443]
noncomputable def o162:Obj:=(Obj.mk (Value.type "frame") none Data.plain #[Option.some (vr 217),Option.some (vr 3),Option.some (vr 214),none,Option.some (vs s46 431),none,Option.some (vr 0)])
noncomputable def o163:Obj:=tob [vs s21 452,vs s60 453] 0
noncomputable def o164:Obj:=fob vz s26 s61 (clsS 12 0) (scopeOf (clsS 12 0)) 0 vz vz 0
noncomputable def o165:Obj:=cob [vs s26 449,vs s61 450,vs s1 451,vi 57 0,vi 2 0,vi 0 0,vi 0 0,vi 3 0,vr 219,Value.bool true,vi 181 0,vr 220,vz,vr 221,vr 222,vr 223,vi 454 0,vi 57 0,vs s1 455]
noncomputable def o166:Obj:=fob (Value.type "function") s26 s61 (clsS 12 0) (scopeOf (clsS 12 0)) 3 (vs s46 431) (vr 224) 0
noncomputable def o167:Obj:=tob [vs s21 460] 0
noncomputable def o168:Obj:=fob vz s55 s62 (clsS 12 1) (scopeOf (clsS 12 1)) 0 vz vz 0
noncomputable def o169:Obj:=cob [vs s55 457,vs s62 458,vs s1 459,vi 60 0,vi 1 0,vi 0 0,vi 0 0,vi 3 0,vr 226,Value.bool true,vi 181 0,vr 227,vz,vr 228,vr 229,vr 230,vi 461 0,vi 60 0,vs s1 462]
noncomputable def o170:Obj:=fob (Value.type "function") s55 s62 (clsS 12 1) (scopeOf (clsS 12 1)) 3 (vs s46 431) (vr 231) 0
noncomputable def o171:Obj:=tob [vs s21 467,vs s27 468] 0
noncomputable def o172:Obj:=fob vz s56 s63 (clsS 12 2) (scopeOf (clsS 12 2)) 0 vz vz 0
noncomputable def o173:Obj:=cob [vs s56 464,vs s63 465,vs s1 466,vi 79 0,vi 1 0,vi 0 0,vi 0 0,vi 3 0,vr 233,Value.bool true,vi 181 0,vr 234,vz,vr 235,vr 236,vr 237,vi 469 0,vi 79 0,vs s1 470]
noncomputable def o174:Obj:=fob (Value.type "function") s56 s63 (clsS 12 2) (scopeOf (clsS 12 2)) 3 (vs s46 431) (vr 238) 0
noncomputable def o175:Obj:=tob [vs s21 475] 0
noncomputable def o176:Obj:=fob vz s57 s64 (clsS 12 3) (scopeOf (clsS 12 3)) 0 vz vz 0
noncomputable def o177:Obj:=cob [vs s57 472,vs s64 473,vs s1 474,vi 86 0,vi 1 0,vi 0 0,vi 0 0,vi 3 0,vr 240,Value.bool true,vi 181 0,vr 241,vz,vr 242,vr 243,vr 244,vi 476 0,vi 86 0,vs s1 477]
noncomputable def o178:Obj:=fob (Value.type "function") s57 s64 (clsS 12 3) (scopeOf (clsS 12 3)) 3 (vs s46 431) (vr 245) 0
noncomputable def o179:Obj:=tob [vs s21 482,vs s33 483,vs s43 484] 0
noncomputable def o180:Obj:=fob vz s58 s65 (clsS 12 4) (scopeOf (clsS 12 4)) 0 vz vz 0
noncomputable def o181:Obj:=cob [vs s58 479,vs s65 480,vs s1 481,vi 93 0,vi 1 0,vi 0 0,vi 0 0,vi 3 0,vr 247,Value.bool true,vi 181 0,vr 248,vz,vr 249,vr 250,vr 251,vi 485 0,vi 93 0,vs s1 486]
noncomputable def o182:Obj:=fob (Value.type "function") s58 s65 (clsS 12 4) (scopeOf (clsS 12 4)) 3 (vs s46 431) (vr 252) 0
noncomputable def o183:Obj:=tob [vs s21 491,vs s66 492] 0
noncomputable def o184:Obj:=fob vz s59 s67 (clsS 12 5) (scopeOf (clsS 12 5)) 0 vz vz 0
noncomputable def o185:Obj:=cob [vs s59 488,vs s67 489,vs s1 490,vi 103 0,vi 1 0,vi 0 0,vi 0 0,vi 3 0,vr 254,Value.bool true,vi 181 0,vr 255,vz,vr 256,vr 257,vr 258,vi 493 0,vi 103 0,vs s1 494]
noncomputable def o186:Obj:=fob (Value.type "function") s59 s67 (clsS 12 5) (scopeOf (clsS 12 5)) 3 (vs s46 431) (vr 259) 0
noncomputable def o187:Obj:=tob [vs s60 496] 0
noncomputable def o188 (P : Params) : Obj := dob [de P s16 444 (vs s46 431),de P s18 448 (vi 55 447),de P s26 456 (vr 225),de P s55 463 (vr 232),de P s56 471 (vr 239),de P s57 478 (vr 246),de P s58 487 (vr 253),de P s59 495 (vr 260),de P s20 497 (vr 261),de P s23 499 (vr 264),de P s24 501 (vr 265),de P s5 502 vz] 4
noncomputable def o189:Obj:=(Obj.mk (Value.type "type") none (Data.cls (ClassData.mk s54 [Value.type "object"] [vr 263,Value.type "object"] 262 s54 true [] [] false none false)) #[none,none,Option.some (vs s54 437),Option.some (vs s54 445),Option.some (Value.builtin "object.__new__"),Option.some (Value.bool true)])
noncomputable def o190:Obj:=(Obj.mk (Value.type "getset_descriptor") none (Data.fields #[vs s23 498,vr 263,Value.builtin "function.__dict__",Value.builtin "function.__dict__#set"]) #[])
noncomputable def o191:Obj:=(Obj.mk (Value.type "getset_descriptor") none (Data.fields #[vs s24 500,vr 263,Value.builtin "ExceptionGroup.__weakref__",vz]) #[])
noncomputable def o192:Obj:=(Obj.mk (Value.type "super") none (Data.fields #[vr 263,vr 263,vr 263]) #[])
noncomputable def o193:Obj:=(Obj.mk (Value.type "builtin_function_or_method") none (Data.fields #[Value.builtin "object.__init_subclass__",vr 263]) #[])
noncomputable def t8 (P : Params) : BT := (bn (boot_o_0 P) (bn (boot_o_1 P) (bn (o157 P) (bn (boot_o_7 P) (bn o0 (bn o15 (bn o40 (bn o91 (bl o1) bz) (bl o140)) (bn o0 (bl o114) (bl o164))) (bn o30 (bn o0 (bl o0) (bl (o152 P))) (bn o78 (bl o128) (bl o174)))) (bn o10 (bn o21 (bn (o49 P) (bn o96 (bl o189) bz) (bl o0)) (bn o1 (bl o10) (bl o169))) (bn o35 (bn o60 (bl o109) (bl o0)) (bn o86 (bl o0) (bl o0))))) (bn o0 (bn o7 (bn o18 (bn o44 (bn o0 (bl o185) bz) (bl o0)) (bn o69 (bl o118) (bl o1))) (bn o1 (bn o0 (bl o0) (bl o156)) (bn o10 (bl o131) (bl o0)))) (bn o13 (bn o28 (bn o52 (bn o100 (bl o193) bz) (bl o149)) (bn o74 (bl o126) (bl o171))) (bn o37 (bn o0 (bl o1) (bl o0)) (bn o88 (bl o136) (bl o180)))))) (bn (boot_o_5 P) (bn (boot_o_9 P) (bn o6 (bn o16 (bn (o42 P) (bn o1 (bl o0) bz) (bl o10)) (bn o68 (bl o116) (bl o166))) (bn o32 (bn o55 (bl o106) (bl o154)) (bn o80 (bl o129) (bl o1)))) (bn o0 (bn o23 (bn o50 (bn o98 (bl o191) bz) (bl o148)) (bn o0 (bl o0) (bl o0))) (bn o0 (bn o10 (bl o111) (bl o161)) (bn o0 (bl o134) (bl o179))))) (bn o2 (bn o9 (bn (o19 P) (bn o28 (bn o94 (bl o187) bz) (bl o146)) (bn o71 (bl o120) (bl o0))) (bn o0 (bn o58 (bl o108) (bl o10)) (bn o0 (bl o1) (bl o177)))) (bn o0 (bn (o29 P) (bn o1 (bl o10) (bl o151)) (bn o76 (bl o0) (bl o172))) (bn o38 (bn o66 (bl o0) (bl o163)) (bn o89 (bl o138) (bl o182))))))) (bn (boot_o_2 P) (bn (boot_o_4 P) (bn (boot_o_8 P) (bn o1 (bn o0 (bn o41 (bn o0 (bl o183) bz) (bl o28)) (bn o1 (bl o115) (bl o165))) (bn o31 (bn o54 (bl o105) (bl o153)) (bn o79 (bl o0) (bl o0)))) (bn (o11 P) (bn o22 (bn o0 (bn (o97 P) (bl o190) bz) (bl o1)) (bn o72 (bl (o124 P)) (bl o170))) (bn o36 (bn o28 (bl o110) (bl o160)) (bn o87 (bl o133) (bl o1))))) (bn o158 (bn o8 (bn o0 (bn o45 (bn o93 (bl o186) bz) (bl o145)) (bn o70 (bl o119) (bl o167))) (bn o33 (bn (o57 P) (bl o1) (bl o0)) (bn (o84 P) (bl o0) (bl o176)))) (bn o14 (bn o10 (bn o0 (bl o28) (bl o150)) (bn o75 (bl o127) (bl o0))) (bn o0 (bn o65 (bl o112) (bl o1)) (bn o0 (bl (o137 P)) (bl o181)))))) (bn (boot_o_6 P) (bn (boot_o_10 P) (bn o0 (bn o17 (bn o43 (bn o92 (bl o184) bz) (bl (o144 P))) (bn o0 (bl (o117 P)) (bl o0))) (bn o0 (bn o56 (bl o107) (bl o155)) (bn o28 (bl o130) (bl o175)))) (bn o12 (bn o24 (bn o51 (bn o99 (bl o192) bz) (bl o0)) (bn o73 (bl o125) (bl o1))) (bn o1 (bn (o64 P) (bl o0) (bl o162)) (bn o1 (bl o135) (bl o0))))) (bn o3 (bn o0 (bn o143 (bn o10 (bn o95 (bl (o188 P)) bz) (bl o147)) (bn o0 (bl o28) (bl o168))) (bn o34 (bn o59 (bl o0) (bl (o159 P))) (bn o85 (bl o132) (bl o178)))) (bn o1 (bn o0 (bn o53 (bl (o104 P)) (bl o0)) (bn (o77 P) (bl o1) (bl o173))) (bn o39 (bn o67 (bl o113) (bl o0)) (bn o90 (bl o139) (bl o0))))))))
noncomputable def sts8 : List Stmt := [topS 12,topS 13]
noncomputable def o194 (P : Params) : Obj := (Obj.mk vz none (Data.dict #[de P s68 532 (vi 284 0),de P s69 533 (vi 1 0)] 2) #[])
noncomputable def o195 (P : Params) : Obj := dob [de P s3 165 (vs s53 505),de P s5 166 vz,de P s6 167 vz,de P s7 168 (Value.builtin "__main__.__loader__#opaque"),de P s8 169 vz,de P s9 170 (vr 6),de P s10 171 (vr 4),de P s11 173 (vs s1 172),de P s12 174 vz,de P s13 193 (vr 21),de P s14 222 (vr 38),de P s25 254 (vr 66),de P s30 277 (vr 85),de P s32 309 (vr 111),de P s36 341 (vr 137),de P s39 373 (vr 163),de P s42 407 (vr 189),de P s47 430 (vr 208),de P s48 436 (vr 211),de P s54 504 (vr 263),de P s70 535 (vr 284)] 21
noncomputable def o196:Obj:=(Obj.mk vz none (Data.fields #[vi 1 0,vi 0 0,vr 20,vi 5 0,vi 0 0,vr 27,vi 9 0,vi 0 0,vr 48,vi 16 0,vi 0 0,vr 74,vi 20 0,vi 0 0,vr 93,vi 27 0,vi 0 0,vr 119,vi 34 0,vi 0 0,vr 145,vi 41 0,vi 0 0,vr 171,vi 49 0,vi 0 0,vr 197,vi 55 0,vi 0 0,vr 217,vi 111 0,vi 0 0,vr 273]) #[])
noncomputable def o197:Obj:=tob [Value.type "Exception"] 0
noncomputable def o198 (P : Params) : Obj := dob [de P s16 514 (vs s53 505),de P s17 516 (vs s70 515),de P s18 518 (vi 111 517),de P s26 526 (vr 281),de P s20 528 (vr 282)] 5
noncomputable def o199:Obj:=(Obj.mk vz none (Data.fields #[vi 113 0,vi 4 0,vr 280]) #[])
noncomputable def o200:Obj:=cob [vs s70 509,vs s70 510,vs s1 511,vi 111 0,vi 0 0,vi 0 0,vi 0 0,vi 0 0,vr 271,Value.bool false,vi 181 0,vr 272,vz,vz,vz,vz,vi 512 0,vi 111 0,vs s1 513]
noncomputable def o201:Obj:=(Obj.mk (Value.type "frame") none Data.plain #[Option.some (vr 273),Option.some (vr 3),Option.some (vr 270),none,Option.some (vs s53 505),none,Option.some (vr 0)])
noncomputable def o202:Obj:=tob [vs s21 522,vs s71 523] 0
noncomputable def o203:Obj:=fob vz s26 s72 (clsS 14 0) (scopeOf (clsS 14 0)) 0 vz vz 0
noncomputable def o204:Obj:=cob [vs s26 519,vs s72 520,vs s1 521,vi 113 0,vi 2 0,vi 0 0,vi 0 0,vi 3 0,vr 275,Value.bool true,vi 181 0,vr 276,vz,vr 277,vr 278,vr 279,vi 524 0,vi 113 0,vs s1 525]
noncomputable def o205:Obj:=fob (Value.type "function") s26 s72 (clsS 14 0) (scopeOf (clsS 14 0)) 3 (vs s53 505) (vr 280) 0
noncomputable def o206:Obj:=tob [vs s71 527] 0
noncomputable def o207 (P : Params) : Obj := dob [de P s16 514 (vs s53 505),de P s18 518 (vi 111 517),de P s26 526 (vr 281),de P s20 528 (vr 282),de P s24 530 (vr 285),de P s5 531 vz] 3
noncomputable def o208:Obj:=(Obj.mk (Value.type "type") none (Data.cls (ClassData.mk s70 [Value.type "Exception"] [vr 284,Value.type "Exception",Value.type "BaseException",Value.type "object"] 283 s70 true [] [] false none false)) #[Option.some (vr 268),none,Option.some (vs s70 507),Option.some (vs s70 515),Option.some (Value.builtin "Exception.__new__"),Option.some (Value.bool true)])
noncomputable def o209:Obj:=(Obj.mk (Value.type "getset_descriptor") none (Data.fields #[vs s24 529,vr 284,Value.builtin "ExceptionGroup.__weakref__",vz]) #[])
noncomputable def o210:Obj:=(Obj.mk (Value.type "super") none (Data.fields #[vr 284,vr 284,vr 284]) #[])
noncomputable def o211:Obj:=(Obj.mk (Value.type "builtin_function_or_method") none (Data.fields #[Value.builtin "object.__init_subclass__",vr 284]) #[])
noncomputable def t9 (P : Params) : BT := (bn (boot_o_0 P) (bn (boot_o_1 P) (bn (o195 P) (bn (boot_o_7 P) (bn o0 (bn o15 (bn o40 (bn o91 (bl o1) bz) (bl o140)) (bn o0 (bn o114 (bl o211) bz) (bl o164))) (bn o30 (bn o0 (bn o0 (bl o0) bz) (bl (o152 P))) (bn o78 (bl o128) (bl o174)))) (bn o10 (bn o21 (bn (o49 P) (bn o96 (bl o189) bz) (bl o0)) (bn o1 (bl o10) (bl o169))) (bn o35 (bn o60 (bn o109 (bl o203) bz) (bl o0)) (bn o86 (bl o0) (bl o0))))) (bn o0 (bn o7 (bn o18 (bn o44 (bn o0 (bl o185) bz) (bl o0)) (bn o69 (bl o118) (bl o1))) (bn o1 (bn o0 (bn o0 (bl o0) bz) (bl o156)) (bn o10 (bl o131) (bl o0)))) (bn o13 (bn o28 (bn o52 (bn o100 (bl o193) bz) (bl o149)) (bn o74 (bl o126) (bl o171))) (bn o37 (bn o0 (bn o1 (bl (o207 P)) bz) (bl o0)) (bn o88 (bl o136) (bl o180)))))) (bn (boot_o_5 P) (bn (boot_o_9 P) (bn o6 (bn o16 (bn (o42 P) (bn o1 (bl o0) bz) (bl o10)) (bn o68 (bl o116) (bl o166))) (bn o32 (bn o55 (bn o106 (bl o200) bz) (bl o154)) (bn o80 (bl o129) (bl o1)))) (bn o0 (bn o23 (bn o50 (bn o98 (bl o191) bz) (bl o148)) (bn o0 (bl o0) (bl o0))) (bn o0 (bn o10 (bn o111 (bl o205) bz) (bl o161)) (bn o0 (bl o134) (bl o179))))) (bn o2 (bn o9 (bn (o19 P) (bn o28 (bn o94 (bl o187) bz) (bl o146)) (bn o71 (bl o120) (bl o0))) (bn o0 (bn o58 (bn o108 (bl o202) bz) (bl o10)) (bn o0 (bl o1) (bl o177)))) (bn o0 (bn (o29 P) (bn o1 (bn o10 (bl o10) bz) (bl o151)) (bn o76 (bl o0) (bl o172))) (bn o38 (bn o66 (bn o0 (bl o209) bz) (bl o163)) (bn o89 (bl o138) (bl o182))))))) (bn (o194 P) (bn (boot_o_4 P) (bn (boot_o_8 P) (bn o1 (bn o0 (bn o41 (bn o0 (bl o183) bz) (bl o28)) (bn o1 (bl o115) (bl o165))) (bn o31 (bn o54 (bn o105 (bl o199) bz) (bl o153)) (bn o79 (bl o0) (bl o0)))) (bn (o11 P) (bn o22 (bn o0 (bn (o97 P) (bl o190) bz) (bl o1)) (bn o72 (bl (o124 P)) (bl o170))) (bn o36 (bn o28 (bn o110 (bl o204) bz) (bl o160)) (bn o87 (bl o133) (bl o1))))) (bn o196 (bn o8 (bn o0 (bn o45 (bn o93 (bl o186) bz) (bl o145)) (bn o70 (bl o119) (bl o167))) (bn o33 (bn (o57 P) (bn o1 (bl o1) bz) (bl o0)) (bn (o84 P) (bl o0) (bl o176)))) (bn o14 (bn o10 (bn o0 (bn o28 (bl o197) bz) (bl o150)) (bn o75 (bl o127) (bl o0))) (bn o0 (bn o65 (bn o112 (bl o208) bz) (bl o1)) (bn o0 (bl (o137 P)) (bl o181)))))) (bn (boot_o_6 P) (bn (boot_o_10 P) (bn o0 (bn o17 (bn o43 (bn o92 (bl o184) bz) (bl (o144 P))) (bn o0 (bl (o117 P)) (bl o0))) (bn o0 (bn o56 (bn o107 (bl o201) bz) (bl o155)) (bn o28 (bl o130) (bl o175)))) (bn o12 (bn o24 (bn o51 (bn o99 (bl o192) bz) (bl o0)) (bn o73 (bl o125) (bl o1))) (bn o1 (bn (o64 P) (bn o0 (bl o206) bz) (bl o162)) (bn o1 (bl o135) (bl o0))))) (bn o3 (bn o0 (bn o143 (bn o10 (bn o95 (bl (o188 P)) bz) (bl o147)) (bn o0 (bl o28) (bl o168))) (bn o34 (bn o59 (bn o0 (bl o0) bz) (bl (o159 P))) (bn o85 (bl o132) (bl o178)))) (bn o1 (bn o0 (bn o53 (bn (o104 P) (bl (o198 P)) bz) (bl o0)) (bn (o77 P) (bl o1) (bl o173))) (bn o39 (bn o67 (bn o113 (bl o210) bz) (bl o0)) (bn o90 (bl o139) (bl o0))))))))
noncomputable def sts9 : List Stmt := [topS 14]
noncomputable def o212 (P : Params) : Obj := dob [de P s3 165 (vs s53 505),de P s5 166 vz,de P s6 167 vz,de P s7 168 (Value.builtin "__main__.__loader__#opaque"),de P s8 169 vz,de P s9 170 (vr 6),de P s10 171 (vr 4),de P s11 173 (vs s1 172),de P s12 174 vz,de P s13 193 (vr 21),de P s14 222 (vr 38),de P s25 254 (vr 66),de P s30 277 (vr 85),de P s32 309 (vr 111),de P s36 341 (vr 137),de P s39 373 (vr 163),de P s42 407 (vr 189),de P s47 430 (vr 208),de P s48 436 (vr 211),de P s54 504 (vr 263),de P s70 535 (vr 284),de P s73 551 (vr 297)] 22
noncomputable def o213:Obj:=(Obj.mk vz none (Data.fields #[vi 1 0,vi 0 0,vr 20,vi 5 0,vi 0 0,vr 27,vi 9 0,vi 0 0,vr 48,vi 16 0,vi 0 0,vr 74,vi 20 0,vi 0 0,vr 93,vi 27 0,vi 0 0,vr 119,vi 34 0,vi 0 0,vr 145,vi 41 0,vi 0 0,vr 171,vi 49 0,vi 0 0,vr 197,vi 55 0,vi 0 0,vr 217,vi 111 0,vi 0 0,vr 273,vi 115 0,vi 0 0,vr 293]) #[])
noncomputable def o214:Obj:=(Obj.mk (Value.type "type") none (Data.cls (ClassData.mk s70 [Value.type "Exception"] [vr 284,Value.type "Exception",Value.type "BaseException",Value.type "object"] 283 s70 true [] [vr 297] false none false)) #[Option.some (vr 268),none,Option.some (vs s70 507),Option.some (vs s70 515),Option.some (Value.builtin "Exception.__new__"),Option.some (Value.bool true)])
noncomputable def o215:Obj:=tob [vr 284] 0
noncomputable def o216 (P : Params) : Obj := dob [de P s16 543 (vs s53 505),de P s17 545 (vs s73 544),de P s18 547 (vi 115 546),de P s20 548 (vr 295)] 4
noncomputable def o217:Obj:=cob [vs s73 538,vs s73 539,vs s1 540,vi 115 0,vi 0 0,vi 0 0,vi 0 0,vi 0 0,vr 291,Value.bool false,vi 181 0,vr 292,vz,vz,vz,vz,vi 541 0,vi 115 0,vs s1 542]
noncomputable def o218:Obj:=(Obj.mk (Value.type "frame") none Data.plain #[Option.some (vr 293),Option.some (vr 3),Option.some (vr 290),none,Option.some (vs s53 505),none,Option.some (vr 0)])
noncomputable def o219 (P : Params) : Obj := dob [de P s16 543 (vs s53 505),de P s18 547 (vi 115 546),de P s20 548 (vr 295),de P s5 549 vz] 2
noncomputable def o220:Obj:=(Obj.mk (Value.type "type") none (Data.cls (ClassData.mk s73 [vr 284] [vr 297,vr 284,Value.type "Exception",Value.type "BaseException",Value.type "object"] 296 s73 true [] [] false none false)) #[Option.some (vr 288),none,Option.some (vs s73 536),Option.some (vs s73 544),Option.some (Value.builtin "Exception.__new__"),Option.some (Value.bool true)])
noncomputable def o221:Obj:=(Obj.mk (Value.type "super") none (Data.fields #[vr 297,vr 297,vr 297]) #[])
noncomputable def o222:Obj:=(Obj.mk (Value.type "builtin_function_or_method") none (Data.fields #[Value.builtin "object.__init_subclass__",vr 297]) #[])
noncomputable def t10 (P : Params) : BT := (bn (boot_o_0 P) (bn (boot_o_1 P) (bn (o212 P) (bn (boot_o_7 P) (bn o0 (bn o15 (bn o40 (bn o91 (bl o1) bz) (bl o140)) (bn o0 (bn o114 (bl o211) bz) (bl o164))) (bn o30 (bn o0 (bn o0 (bl o0) bz) (bl (o152 P))) (bn o78 (bl o128) (bl o174)))) (bn o10 (bn o21 (bn (o49 P) (bn o96 (bl o189) bz) (bl o0)) (bn o1 (bn o10 (bl o0) bz) (bl o169))) (bn o35 (bn o60 (bn o109 (bl o203) bz) (bl o0)) (bn o86 (bl o0) (bl o0))))) (bn o0 (bn o7 (bn o18 (bn o44 (bn o0 (bl o185) bz) (bl o0)) (bn o69 (bn o118 (bl o0) bz) (bl o1))) (bn o1 (bn o0 (bn o0 (bl o0) bz) (bl o156)) (bn o10 (bl o131) (bl o0)))) (bn o13 (bn o28 (bn o52 (bn o100 (bl o193) bz) (bl o149)) (bn o74 (bn o126 (bl o222) bz) (bl o171))) (bn o37 (bn o0 (bn o1 (bl (o207 P)) bz) (bl o0)) (bn o88 (bl o136) (bl o180)))))) (bn (boot_o_5 P) (bn (boot_o_9 P) (bn o6 (bn o16 (bn (o42 P) (bn o1 (bl o0) bz) (bl o10)) (bn o68 (bn o116 (bl o10) bz) (bl o166))) (bn o32 (bn o55 (bn o106 (bl o200) bz) (bl o154)) (bn o80 (bl o129) (bl o1)))) (bn o0 (bn o23 (bn o50 (bn o98 (bl o191) bz) (bl o148)) (bn o0 (bn o0 (bl o220) bz) (bl o0))) (bn o0 (bn o10 (bn o111 (bl o205) bz) (bl o161)) (bn o0 (bl o134) (bl o179))))) (bn o2 (bn o9 (bn (o19 P) (bn o28 (bn o94 (bl o187) bz) (bl o146)) (bn o71 (bn o120 (bl o217) bz) (bl o0))) (bn o0 (bn o58 (bn o108 (bl o202) bz) (bl o10)) (bn o0 (bl o1) (bl o177)))) (bn o0 (bn (o29 P) (bn o1 (bn o10 (bl o10) bz) (bl o151)) (bn o76 (bl o0) (bl o172))) (bn o38 (bn o66 (bn o0 (bl o209) bz) (bl o163)) (bn o89 (bl o138) (bl o182))))))) (bn (o194 P) (bn (boot_o_4 P) (bn (boot_o_8 P) (bn o1 (bn o0 (bn o41 (bn o0 (bl o183) bz) (bl o28)) (bn o1 (bn o115 (bl o215) bz) (bl o165))) (bn o31 (bn o54 (bn o105 (bl o199) bz) (bl o153)) (bn o79 (bl o0) (bl o0)))) (bn (o11 P) (bn o22 (bn o0 (bn (o97 P) (bl o190) bz) (bl o1)) (bn o72 (bn (o124 P) (bl (o219 P)) bz) (bl o170))) (bn o36 (bn o28 (bn o110 (bl o204) bz) (bl o160)) (bn o87 (bl o133) (bl o1))))) (bn o213 (bn o8 (bn o0 (bn o45 (bn o93 (bl o186) bz) (bl o145)) (bn o70 (bn o119 (bl o1) bz) (bl o167))) (bn o33 (bn (o57 P) (bn o1 (bl o1) bz) (bl o0)) (bn (o84 P) (bl o0) (bl o176)))) (bn o14 (bn o10 (bn o0 (bn o28 (bl o197) bz) (bl o150)) (bn o75 (bl o127) (bl o0))) (bn o0 (bn o65 (bn o112 (bl o214) bz) (bl o1)) (bn o0 (bl (o137 P)) (bl o181)))))) (bn (boot_o_6 P) (bn (boot_o_10 P) (bn o0 (bn o17 (bn o43 (bn o92 (bl o184) bz) (bl (o144 P))) (bn o0 (bn (o117 P) (bl (o216 P)) bz) (bl o0))) (bn o0 (bn o56 (bn o107 (bl o201) bz) (bl o155)) (bn o28 (bl o130) (bl o175)))) (bn o12 (bn o24 (bn o51 (bn o99 (bl o192) bz) (bl o0)) (bn o73 (bn o125 (bl o221) bz) (bl o1))) (bn o1 (bn (o64 P) (bn o0 (bl o206) bz) (bl o162)) (bn o1 (bl o135) (bl o0))))) (bn o3 (bn o0 (bn o143 (bn o10 (bn o95 (bl (o188 P)) bz) (bl o147)) (bn o0 (bn o28 (bl o218) bz) (bl o168))) (bn o34 (bn o59 (bn o0 (bl o0) bz) (bl (o159 P))) (bn o85 (bl o132) (bl o178)))) (bn o1 (bn o0 (bn o53 (bn (o104 P) (bl (o198 P)) bz) (bl o0)) (bn (o77 P) (bl o1) (bl o173))) (bn o39 (bn o67 (bn o113 (bl o210) bz) (bl o0)) (bn o90 (bl o139) (bl o0))))))))
noncomputable def sts10 : List Stmt := [topS 15]
noncomputable def o223 (P : Params) : Obj := dob [de P s3 165 (vs s74 579),de P s5 166 vz,de P s6 167 vz,de P s7 168 (Value.builtin "__main__.__loader__#opaque"),de P s8 169 vz,de P s9 170 (vr 6),de P s10 171 (vr 4),de P s11 173 (vs s1 172),de P s12 174 vz,de P s13 193 (vr 21),de P s14 222 (vr 38),de P s25 254 (vr 66),de P s30 277 (vr 85),de P s32 309 (vr 111),de P s36 341 (vr 137),de P s39 373 (vr 163),de P s42 407 (vr 189),de P s47 430 (vr 208),de P s48 436 (vr 211),de P s54 504 (vr 263),de P s70 535 (vr 284),de P s73 551 (vr 297),de P s75 578 (vr 316),de P s76 582 (vs s77 581),de P s78 584 (vs s79 583),de P s80 586 (vs s81 585),de P s82 588 (vs s83 587),de P s84 590 (vs s85 589),de P s86 594 (vs s87 593),de P s88 603 (vr 319),de P s89 605 (vs s90 604)] 31
noncomputable def o224:Obj:=(Obj.mk vz none (Data.fields #[vi 1 0,vi 0 0,vr 20,vi 5 0,vi 0 0,vr 27,vi 9 0,vi 0 0,vr 48,vi 16 0,vi 0 0,vr 74,vi 20 0,vi 0 0,vr 93,vi 27 0,vi 0 0,vr 119,vi 34 0,vi 0 0,vr 145,vi 41 0,vi 0 0,vr 171,vi 49 0,vi 0 0,vr 197,vi 55 0,vi 0 0,vr 217,vi 111 0,vi 0 0,vr 273,vi 115 0,vi 0 0,vr 293,vi 117 0,vi 0 0,vr 305]) #[])
noncomputable def o225:Obj:=(Obj.mk (Value.type "type") none (Data.cls (ClassData.mk s73 [vr 284] [vr 297,vr 284,Value.type "Exception",Value.type "BaseException",Value.type "object"] 296 s73 true [] [vr 316] false none false)) #[Option.some (vr 288),none,Option.some (vs s73 536),Option.some (vs s73 544),Option.some (Value.builtin "Exception.__new__"),Option.some (Value.bool true)])
noncomputable def o226:Obj:=tob [vr 297] 0
noncomputable def o227 (P : Params) : Obj := dob [de P s16 559 (vs s53 505),de P s17 561 (vs s75 560),de P s18 563 (vi 117 562),de P s26 572 (vr 313),de P s20 575 (vr 314)] 5
noncomputable def o228:Obj:=(Obj.mk vz none (Data.fields #[vi 119 0,vi 4 0,vr 312]) #[])
noncomputable def o229:Obj:=cob [vs s75 554,vs s75 555,vs s1 556,vi 117 0,vi 0 0,vi 0 0,vi 0 0,vi 0 0,vr 303,Value.bool false,vi 181 0,vr 304,vz,vz,vz,vz,vi 557 0,vi 117 0,vs s1 558]
noncomputable def o230:Obj:=(Obj.mk (Value.type "frame") none Data.plain #[Option.some (vr 305),Option.some (vr 3),Option.some (vr 302),none,Option.some (vs s53 505),none,Option.some (vr 0)])
noncomputable def o231:Obj:=tob [vs s21 567,vs s71 568,vs s91 569] 0
noncomputable def o232:Obj:=fob vz s26 s92 (clsS 16 0) (scopeOf (clsS 16 0)) 0 vz vz 0
noncomputable def o233:Obj:=cob [vs s26 564,vs s92 565,vs s1 566,vi 119 0,vi 3 0,vi 0 0,vi 0 0,vi 3 0,vr 307,Value.bool true,vi 181 0,vr 308,vz,vr 309,vr 310,vr 311,vi 570 0,vi 119 0,vs s1 571]
noncomputable def o234:Obj:=fob (Value.type "function") s26 s92 (clsS 16 0) (scopeOf (clsS 16 0)) 3 (vs s53 505) (vr 312) 0
noncomputable def o235:Obj:=tob [vs s71 573,vs s91 574] 0
noncomputable def o236 (P : Params) : Obj := dob [de P s16 559 (vs s53 505),de P s18 563 (vi 117 562),de P s26 572 (vr 313),de P s20 575 (vr 314),de P s5 576 vz] 2
noncomputable def o237:Obj:=(Obj.mk (Value.type "type") none (Data.cls (ClassData.mk s75 [vr 297] [vr 316,vr 297,vr 284,Value.type "Exception",Value.type "BaseException",Value.type "object"] 315 s75 true [] [] false none false)) #[Option.some (vr 300),none,Option.some (vs s75 552),Option.some (vs s75 560),Option.some (Value.builtin "Exception.__new__"),Option.some (Value.bool true)])
noncomputable def o238:Obj:=(Obj.mk (Value.type "super") none (Data.fields #[vr 316,vr 316,vr 316]) #[])
noncomputable def o239:Obj:=(Obj.mk (Value.type "builtin_function_or_method") none (Data.fields #[Value.builtin "object.__init_subclass__",vr 316]) #[])
noncomputable def o240:Obj:=tob [vs s93 595,vs s94 596,vs s95 597,vs s96 598,vs s97 599,vs s98 600,vs s99 601,vs s100 602] 0
noncomputable def t11 (P : Params) : BT := (bn (boot_o_0 P) (bn (boot_o_1 P) (bn (o223 P) (bn (boot_o_7 P) (bn o0 (bn o15 (bn o40 (bn o91 (bl o1) bz) (bn o140 (bl o240) bz)) (bn o0 (bn o114 (bl o211) bz) (bl o164))) (bn o30 (bn o0 (bn o0 (bl o0) bz) (bl (o152 P))) (bn o78 (bn o128 (bl o0) bz) (bl o174)))) (bn o10 (bn o21 (bn (o49 P) (bn o96 (bl o189) bz) (bl o0)) (bn o1 (bn o10 (bl o0) bz) (bl o169))) (bn o35 (bn o60 (bn o109 (bl o203) bz) (bl o0)) (bn o86 (bn o0 (bl o232) bz) (bl o0))))) (bn o0 (bn o7 (bn o18 (bn o44 (bn o0 (bl o185) bz) (bl o0)) (bn o69 (bn o118 (bl o0) bz) (bl o1))) (bn o1 (bn o0 (bn o0 (bl o0) bz) (bl o156)) (bn o10 (bn o131 (bl o0) bz) (bl o0)))) (bn o13 (bn o28 (bn o52 (bn o100 (bl o193) bz) (bl o149)) (bn o74 (bn o126 (bl o222) bz) (bl o171))) (bn o37 (bn o0 (bn o1 (bl (o207 P)) bz) (bl o0)) (bn o88 (bn o136 (bl (o236 P)) bz) (bl o180)))))) (bn (boot_o_5 P) (bn (boot_o_9 P) (bn o6 (bn o16 (bn (o42 P) (bn o1 (bl o0) bz) (bl o10)) (bn o68 (bn o116 (bl o10) bz) (bl o166))) (bn o32 (bn o55 (bn o106 (bl o200) bz) (bl o154)) (bn o80 (bn o129 (bl o229) bz) (bl o1)))) (bn o0 (bn o23 (bn o50 (bn o98 (bl o191) bz) (bl o148)) (bn o0 (bn o0 (bl o225) bz) (bl o0))) (bn o0 (bn o10 (bn o111 (bl o205) bz) (bl o161)) (bn o0 (bn o134 (bl o234) bz) (bl o179))))) (bn o2 (bn o9 (bn (o19 P) (bn o28 (bn o94 (bl o187) bz) (bl o146)) (bn o71 (bn o120 (bl o217) bz) (bl o0))) (bn o0 (bn o58 (bn o108 (bl o202) bz) (bl o10)) (bn o0 (bn o1 (bl o231) bz) (bl o177)))) (bn o0 (bn (o29 P) (bn o1 (bn o10 (bl o10) bz) (bl o151)) (bn o76 (bn o0 (bl o10) bz) (bl o172))) (bn o38 (bn o66 (bn o0 (bl o209) bz) (bl o163)) (bn o89 (bn o138 (bl o238) bz) (bl o182))))))) (bn (o194 P) (bn (boot_o_4 P) (bn (boot_o_8 P) (bn o1 (bn o0 (bn o41 (bn o0 (bl o183) bz) (bl o28)) (bn o1 (bn o115 (bl o215) bz) (bl o165))) (bn o31 (bn o54 (bn o105 (bl o199) bz) (bl o153)) (bn o79 (bn o0 (bl o228) bz) (bl o0)))) (bn (o11 P) (bn o22 (bn o0 (bn (o97 P) (bl o190) bz) (bl o1)) (bn o72 (bn (o124 P) (bl (o219 P)) bz) (bl o170))) (bn o36 (bn o28 (bn o110 (bl o204) bz) (bl o160)) (bn o87 (bn o133 (bl o233) bz) (bl o1))))) (bn o224 (bn o8 (bn o0 (bn o45 (bn o93 (bl o186) bz) (bl o145)) (bn o70 (bn o119 (bl o1) bz) (bl o167))) (bn o33 (bn (o57 P) (bn o1 (bl o1) bz) (bl o0)) (bn (o84 P) (bn o0 (bl o1) bz) (bl o176)))) (bn o14 (bn o10 (bn o0 (bn o28 (bl o197) bz) (bl o150)) (bn o75 (bn o127 (bl o226) bz) (bl o0))) (bn o0 (bn o65 (bn o112 (bl o214) bz) (bl o1)) (bn o0 (bn (o137 P) (bl o237) bz) (bl o181)))))) (bn (boot_o_6 P) (bn (boot_o_10 P) (bn o0 (bn o17 (bn o43 (bn o92 (bl o184) bz) (bl (o144 P))) (bn o0 (bn (o117 P) (bl (o216 P)) bz) (bl o0))) (bn o0 (bn o56 (bn o107 (bl o201) bz) (bl o155)) (bn o28 (bn o130 (bl o230) bz) (bl o175)))) (bn o12 (bn o24 (bn o51 (bn o99 (bl o192) bz) (bl o0)) (bn o73 (bn o125 (bl o221) bz) (bl o1))) (bn o1 (bn (o64 P) (bn o0 (bl o206) bz) (bl o162)) (bn o1 (bn o135 (bl o235) bz) (bl o0))))) (bn o3 (bn o0 (bn o143 (bn o10 (bn o95 (bl (o188 P)) bz) (bl o147)) (bn o0 (bn o28 (bl o218) bz) (bl o168))) (bn o34 (bn o59 (bn o0 (bl o0) bz) (bl (o159 P))) (bn o85 (bn o132 (bl o0) bz) (bl o178)))) (bn o1 (bn o0 (bn o53 (bn (o104 P) (bl (o198 P)) bz) (bl o0)) (bn (o77 P) (bn o1 (bl (o227 P)) bz) (bl o173))) (bn o39 (bn o67 (bn o113 (bl o210) bz) (bl o0)) (bn o90 (bn o139 (bl o239) bz) (bl o0))))))))
noncomputable def sts11 : List Stmt := [topS 16,topS 17,topS 18,topS 19,topS 20,topS 21,topS 22,topS 23,topS 24,topS 25]
noncomputable def o241 (P : Params) : Obj := dob [de P s3 165 (vs s74 579),de P s5 166 vz,de P s6 167 vz,de P s7 168 (Value.builtin "__main__.__loader__#opaque"),de P s8 169 vz,de P s9 170 (vr 6),de P s10 171 (vr 4),de P s11 173 (vs s1 172),de P s12 174 vz,de P s13 193 (vr 21),de P s14 222 (vr 38),de P s25 254 (vr 66),de P s30 277 (vr 85),de P s32 309 (vr 111),de P s36 341 (vr 137),de P s39 373 (vr 163),de P s42 407 (vr 189),de P s47 430 (vr 208),de P s48 436 (vr 211),de P s54 504 (vr 263),de P s70 535 (vr 284),de P s73 551 (vr 297),de P s75 578 (vr 316),de P s76 582 (vs s77 581),de P s78 584 (vs s79 583),de P s80 586 (vs s81 585),de P s82 588 (vs s83 587),de P s84 590 (vs s85 589),de P s86 594 (vs s87 593),de P s88 603 (vr 319),de P s89 605 (vs s90 604),de P s101 612 (vr 320),de P s102 614 (vi 999 613),de P s103 618 (vi 9223372036854775808 617),de P s104 677 (vr 321),de P s105 686 (vr 322),de P s106 692 (vr 327),de P s107 699 (vr 334),de P s108 706 (vr 341)] 39
noncomputable def o242:Obj:=(Obj.mk vz none (Data.fields #[vi 1 0,vi 0 0,vr 20,vi 5 0,vi 0 0,vr 27,vi 9 0,vi 0 0,vr 48,vi 16 0,vi 0 0,vr 74,vi 20 0,vi 0 0,vr 93,vi 27 0,vi 0 0,vr 119,vi 34 0,vi 0 0,vr 145,vi 41 0,vi 0 0,vr 171,vi 49 0,vi 0 0,vr 197,vi 55 0,vi 0 0,vr 217,vi 111 0,vi 0 0,vr 273,vi 115 0,vi 0 0,vr 293,vi 117 0,vi 0 0,vr 305,vi 136 0,vi 0 0,vr 326,vi 140 0,vi 0 0,vr 333,vi 142 0,vi 0 0,vr 340]) #[])
noncomputable def o243 (P : Params) : Obj := dob [de P s97 606 (vs s109 607),de P s96 608 (vs s95 609)] 2
noncomputable def o244:Obj:=tob [vs s110 619,vs s111 620,vs s112 621,vs s113 622,vs s114 623,vs s115 624,vs s116 625,vs s117 626,vs s118 627,vs s119 628,vs s120 629,vs s121 630,vs s122 631,vs s123 632,vs s124 633,vs s125 634,vs s126 635,vs s127 636,vs s128 637,vs s129 638,vs s130 639,vs s131 640,vs s132 641,vs s133 642,vs s134 643,vs s135 644,vs s136 645,vs s137 646,vs s138 647,vs s139 648,vs s140 649,vs s141 650,vs s142 651,vs s143 652,vs s144 653,vs s145 654,vs s146 655,vs s147 656,vs s148 657,vs s149 658,vs s150 659,vs s151 660,vs s152 661,vs s153 662,vs s154 663,vs s155 664,vs s156 665,vs s157 666,vs s158 667,vs s159 668,vs s160 669,vs s161 670,vs s162 671,vs s163 672,vs s164 673,vs s165 674,vs s166 675,vs s167 676] 0
noncomputable def o245:Obj:=tob [vs s168 678,vs s169 679,vs s170 680,vs s171 681,vs s172 682,vs s173 683,vs s174 684,vs s175 685] 0
noncomputable def o246:Obj:=fob vz s106 s106 (topS 31) (scopeOf (topS 31)) 0 vz vz 0
noncomputable def o247:Obj:=cob [vs s106 687,vs s106 688,vs s1 689,vi 136 0,vi 1 0,vi 0 0,vi 0 0,vi 3 0,vr 323,Value.bool true,vi 181 0,vr 324,vz,vz,vz,vr 325,vi 690 0,vi 136 0,vs s1 691]
noncomputable def o248:Obj:=fob (Value.type "function") s106 s106 (topS 31) (scopeOf (topS 31)) 3 (vs s74 579) (vr 326) 0
noncomputable def o249:Obj:=tob [vs s176 696] 0
noncomputable def o250:Obj:=fob vz s107 s107 (topS 32) (scopeOf (topS 32)) 0 vz vz 0
noncomputable def o251:Obj:=cob [vs s107 693,vs s107 694,vs s1 695,vi 140 0,vi 1 0,vi 0 0,vi 0 0,vi 3 0,vr 328,Value.bool true,vi 181 0,vr 329,vz,vr 330,vr 331,vr 332,vi 697 0,vi 140 0,vs s1 698]
noncomputable def o252:Obj:=fob (Value.type "function") s107 s107 (topS 32) (scopeOf (topS 32)) 3 (vs s74 579) (vr 333) 0
noncomputable def o253:Obj:=tob [vs s176 703] 0
noncomputable def o254:Obj:=fob vz s108 s108 (topS 33) (scopeOf (topS 33)) 0 vz vz 0
noncomputable def o255:Obj:=cob [vs s108 700,vs s108 701,vs s1 702,vi 142 0,vi 1 0,vi 0 0,vi 0 0,vi 3 0,vr 335,Value.bool true,vi 181 0,vr 336,vz,vr 337,vr 338,vr 339,vi 704 0,vi 142 0,vs s1 705]
noncomputable def o256:Obj:=fob (Value.type "function") s108 s108 (topS 33) (scopeOf (topS 33)) 3 (vs s74 579) (vr 340) 0
noncomputable def t12 (P : Params) : BT := (bn (boot_o_0 P) (bn (boot_o_1 P) (bn (o241 P) (bn (boot_o_7 P) (bn o0 (bn o15 (bn o40 (bn o91 (bl o1) bz) (bn o140 (bl o240) bz)) (bn o0 (bn o114 (bl o211) bz) (bl o164))) (bn o30 (bn o0 (bn o0 (bl o0) bz) (bn (o152 P) (bl o0) bz)) (bn o78 (bn o128 (bl o0) bz) (bl o174)))) (bn o10 (bn o21 (bn (o49 P) (bn o96 (bl o189) bz) (bn o0 (bl o248) bz)) (bn o1 (bn o10 (bl o0) bz) (bl o169))) (bn o35 (bn o60 (bn o109 (bl o203) bz) (bl o0)) (bn o86 (bn o0 (bl o232) bz) (bl o0))))) (bn o0 (bn o7 (bn o18 (bn o44 (bn o0 (bl o185) bz) (bn o0 (bl o0) bz)) (bn o69 (bn o118 (bl o0) bz) (bl o1))) (bn o1 (bn o0 (bn o0 (bl o0) bz) (bn o156 (bl o254) bz)) (bn o10 (bn o131 (bl o0) bz) (bl o0)))) (bn o13 (bn o28 (bn o52 (bn o100 (bl o193) bz) (bn o149 (bl o0) bz)) (bn o74 (bn o126 (bl o222) bz) (bl o171))) (bn o37 (bn o0 (bn o1 (bl (o207 P)) bz) (bl o0)) (bn o88 (bn o136 (bl (o236 P)) bz) (bl o180)))))) (bn (boot_o_5 P) (bn (boot_o_9 P) (bn o6 (bn o16 (bn (o42 P) (bn o1 (bl o0) bz) (bn o10 (bl o244) bz)) (bn o68 (bn o116 (bl o10) bz) (bl o166))) (bn o32 (bn o55 (bn o106 (bl o200) bz) (bn o154 (bl o253) bz)) (bn o80 (bn o129 (bl o229) bz) (bl o1)))) (bn o0 (bn o23 (bn o50 (bn o98 (bl o191) bz) (bn o148 (bl o1) bz)) (bn o0 (bn o0 (bl o225) bz) (bl o0))) (bn o0 (bn o10 (bn o111 (bl o205) bz) (bl o161)) (bn o0 (bn o134 (bl o234) bz) (bl o179))))) (bn o2 (bn o9 (bn (o19 P) (bn o28 (bn o94 (bl o187) bz) (bn o146 (bl o246) bz)) (bn o71 (bn o120 (bl o217) bz) (bl o0))) (bn o0 (bn o58 (bn o108 (bl o202) bz) (bn o10 (bl o256) bz)) (bn o0 (bn o1 (bl o231) bz) (bl o177)))) (bn o0 (bn (o29 P) (bn o1 (bn o10 (bl o10) bz) (bn o151 (bl o251) bz)) (bn o76 (bn o0 (bl o10) bz) (bl o172))) (bn o38 (bn o66 (bn o0 (bl o209) bz) (bl o163)) (bn o89 (bn o138 (bl o238) bz) (bl o182))))))) (bn (o194 P) (bn (boot_o_4 P) (bn (boot_o_8 P) (bn o1 (bn o0 (bn o41 (bn o0 (bl o183) bz) (bn o28 (bl (o243 P)) bz)) (bn o1 (bn o115 (bl o215) bz) (bl o165))) (bn o31 (bn o54 (bn o105 (bl o199) bz) (bn o153 (bl o1) bz)) (bn o79 (bn o0 (bl o228) bz) (bl o0)))) (bn (o11 P) (bn o22 (bn o0 (bn (o97 P) (bl o190) bz) (bn o1 (bl o0) bz)) (bn o72 (bn (o124 P) (bl (o219 P)) bz) (bl o170))) (bn o36 (bn o28 (bn o110 (bl o204) bz) (bl o160)) (bn o87 (bn o133 (bl o233) bz) (bl o1))))) (bn o242 (bn o8 (bn o0 (bn o45 (bn o93 (bl o186) bz) (bn o145 (bl o1) bz)) (bn o70 (bn o119 (bl o1) bz) (bl o167))) (bn o33 (bn (o57 P) (bn o1 (bl o1) bz) (bn o0 (bl o255) bz)) (bn (o84 P) (bn o0 (bl o1) bz) (bl o176)))) (bn o14 (bn o10 (bn o0 (bn o28 (bl o197) bz) (bn o150 (bl o250) bz)) (bn o75 (bn o127 (bl o226) bz) (bl o0))) (bn o0 (bn o65 (bn o112 (bl o214) bz) (bl o1)) (bn o0 (bn (o137 P) (bl o237) bz) (bl o181)))))) (bn (boot_o_6 P) (bn (boot_o_10 P) (bn o0 (bn o17 (bn o43 (bn o92 (bl o184) bz) (bn (o144 P) (bl o245) bz)) (bn o0 (bn (o117 P) (bl (o216 P)) bz) (bl o0))) (bn o0 (bn o56 (bn o107 (bl o201) bz) (bn o155 (bl o0) bz)) (bn o28 (bn o130 (bl o230) bz) (bl o175)))) (bn o12 (bn o24 (bn o51 (bn o99 (bl o192) bz) (bn o0 (bl o249) bz)) (bn o73 (bn o125 (bl o221) bz) (bl o1))) (bn o1 (bn (o64 P) (bn o0 (bl o206) bz) (bl o162)) (bn o1 (bn o135 (bl o235) bz) (bl o0))))) (bn o3 (bn o0 (bn o143 (bn o10 (bn o95 (bl (o188 P)) bz) (bn o147 (bl o247) bz)) (bn o0 (bn o28 (bl o218) bz) (bl o168))) (bn o34 (bn o59 (bn o0 (bl o0) bz) (bl (o159 P))) (bn o85 (bn o132 (bl o0) bz) (bl o178)))) (bn o1 (bn o0 (bn o53 (bn (o104 P) (bl (o198 P)) bz) (bn o0 (bl o252) bz)) (bn (o77 P) (bn o1 (bl (o227 P)) bz) (bl o173))) (bn o39 (bn o67 (bn o113 (bl o210) bz) (bl o0)) (bn o90 (bn o139 (bl o239) bz) (bl o0))))))))
noncomputable def sts12 : List Stmt := [topS 26,topS 27,topS 28,topS 29,topS 30,topS 31,topS 32,topS 33]
noncomputable def o257 (P : Params) : Obj := dob [de P s3 165 (vs s74 579),de P s5 166 vz,de P s6 167 vz,de P s7 168 (Value.builtin "__main__.__loader__#opaque"),de P s8 169 vz,de P s9 170 (vr 6),de P s10 171 (vr 4),de P s11 173 (vs s1 172),de P s12 174 vz,de P s13 193 (vr 21),de P s14 222 (vr 38),de P s25 254 (vr 66),de P s30 277 (vr 85),de P s32 309 (vr 111),de P s36 341 (vr 137),de P s39 373 (vr 163),de P s42 407 (vr 189),de P s47 430 (vr 208),de P s48 436 (vr 211),de P s54 504 (vr 263),de P s70 535 (vr 284),de P s73 551 (vr 297),de P s75 578 (vr 316),de P s76 582 (vs s77 581),de P s78 584 (vs s79 583),de P s80 586 (vs s81 585),de P s82 588 (vs s83 587),de P s84 590 (vs s85 589),de P s86 594 (vs s87 593),de P s88 603 (vr 319),de P s89 605 (vs s90 604),de P s101 612 (vr 320),de P s102 614 (vi 999 613),de P s103 618 (vi 9223372036854775808 617),de P s104 677 (vr 321),de P s105 686 (vr 322),de P s106 692 (vr 327),de P s107 699 (vr 334),de P s108 706 (vr 341),de P s177 778 (vr 393)] 40
noncomputable def o258:Obj:=(Obj.mk vz none (Data.fields #[vi 1 0,vi 0 0,vr 20,vi 5 0,vi 0 0,vr 27,vi 9 0,vi 0 0,vr 48,vi 16 0,vi 0 0,vr 74,vi 20 0,vi 0 0,vr 93,vi 27 0,vi 0 0,vr 119,vi 34 0,vi 0 0,vr 145,vi 41 0,vi 0 0,vr 171,vi 49 0,vi 0 0,vr 197,vi 55 0,vi 0 0,vr 217,vi 111 0,vi 0 0,vr 273,vi 115 0,vi 0 0,vr 293,vi 117 0,vi 0 0,vr 305,vi 136 0,vi 0 0,vr 326,vi 140 0,vi 0 0,vr 333,vi 142 0,vi 0 0,vr 340,vi 144 0,vi 0 0,vr 347]) #[])
noncomputable def o259 (P : Params) : Obj := dob [de P s16 714 (vs s74 579),de P s17 716 (vs s177 715),de P s18 718 (vi 144 717),de P s26 729 (vr 355),de P s178 737 (vr 362),de P s179 745 (vr 369),de P s180 752 (vr 376),de P s181 759 (vr 383),de P s19 766 (vr 390),de P s20 771 (vr 391)] 10
noncomputable def o260:Obj:=(Obj.mk vz none (Data.fields #[vi 146 0,vi 4 0,vr 354,vi 152 0,vi 4 0,vr 361,vi 155 0,vi 4 0,vr 368,vi 158 0,vi 4 0,vr 375,vi 161 0,vi 4 0,vr 382,vi 164 0,vi 4 0,vr 389]) #[])
noncomputable def o261:Obj:=cob [vs s177 709,vs s177 710,vs s1 711,vi 144 0,vi 0 0,vi 0 0,vi 0 0,vi 0 0,vr 345,Value.bool false,vi 181 0,vr 346,vz,vz,vz,vz,vi 712 0,vi 144 0,vs s1 713]
noncomputable def o262:Obj:=(Obj.mk (Value.type "frame") none Data.plain #[Option.some (vr 347),Option.some (vr 3),Option.some (vr 344),none,Option.some (vs s74 579),none,Option.some (vr 0)])
noncomputable def o263:Obj:=tob [vs s21 722,vs s27 723,vs s182 724,vs s43 725,vs s91 726] 0
noncomputable def o264:Obj:=fob vz s26 s183 (clsS 34 0) (scopeOf (clsS 34 0)) 0 vz vz 0
noncomputable def o265:Obj:=cob [vs s26 719,vs s183 720,vs s1 721,vi 146 0,vi 5 0,vi 0 0,vi 0 0,vi 3 0,vr 349,Value.bool true,vi 181 0,vr 350,vz,vr 351,vr 352,vr 353,vi 727 0,vi 146 0,vs s1 728]
noncomputable def o266:Obj:=fob (Value.type "function") s26 s183 (clsS 34 0) (scopeOf (clsS 34 0)) 3 (vs s74 579) (vr 354) 0
noncomputable def o267:Obj:=tob [vs s21 733,vs s182 734] 0
noncomputable def o268:Obj:=fob vz s178 s184 (clsS 34 1) (scopeOf (clsS 45 13)) 0 vz vz 0
noncomputable def o269:Obj:=cob [vs s178 730,vs s184 731,vs s1 732,vi 152 0,vi 2 0,vi 0 0,vi 0 0,vi 3 0,vr 356,Value.bool true,vi 181 0,vr 357,vz,vr 358,vr 359,vr 360,vi 735 0,vi 152 0,vs s1 736]
noncomputable def o270:Obj:=fob (Value.type "function") s178 s184 (clsS 34 1) (scopeOf (clsS 45 13)) 3 (vs s74 579) (vr 361) 0
noncomputable def o271:Obj:=tob [vs s21 741,vs s182 742] 0
noncomputable def o272:Obj:=fob vz s179 s185 (clsS 34 2) (scopeOf (clsS 45 13)) 0 vz vz 0
noncomputable def o273:Obj:=cob [vs s179 738,vs s185 739,vs s1 740,vi 155 0,vi 2 0,vi 0 0,vi 0 0,vi 3 0,vr 363,Value.bool true,vi 181 0,vr 364,vz,vr 365,vr 366,vr 367,vi 743 0,vi 155 0,vs s1 744]
noncomputable def o274:Obj:=fob (Value.type "function") s179 s185 (clsS 34 2) (scopeOf (clsS 45 13)) 3 (vs s74 579) (vr 368) 0
noncomputable def o275:Obj:=tob [vs s21 749] 0
noncomputable def o276:Obj:=fob vz s180 s186 (clsS 34 3) (scopeOf (clsS 34 3)) 0 vz vz 0
noncomputable def o277:Obj:=cob [vs s180 746,vs s186 747,vs s1 748,vi 158 0,vi 1 0,vi 0 0,vi 0 0,vi 3 0,vr 370,Value.bool true,vi 181 0,vr 371,vz,vr 372,vr 373,vr 374,vi 750 0,vi 158 0,vs s1 751]
noncomputable def o278:Obj:=fob (Value.type "function") s180 s186 (clsS 34 3) (scopeOf (clsS 34 3)) 3 (vs s74 579) (vr 375) 0
noncomputable def o279:Obj:=tob [vs s21 756] 0
noncomputable def o280:Obj:=fob vz s181 s187 (clsS 34 4) (scopeOf (clsS 45 16)) 0 vz vz 0
noncomputable def o281:Obj:=cob [vs s181 753,vs s187 754,vs s1 755,vi 161 0,vi 1 0,vi 0 0,vi 0 0,vi 3 0,vr 377,Value.bool true,vi 181 0,vr 378,vz,vr 379,vr 380,vr 381,vi 757 0,vi 161 0,vs s1 758]
noncomputable def o282:Obj:=fob (Value.type "function") s181 s187 (clsS 34 4) (scopeOf (clsS 45 16)) 3 (vs s74 579) (vr 382) 0
noncomputable def o283:Obj:=tob [vs s21 763] 0
noncomputable def o284:Obj:=fob vz s19 s188 (clsS 34 5) (scopeOf (clsS 45 14)) 0 vz vz 0
noncomputable def o285:Obj:=cob [vs s19 760,vs s188 761,vs s1 762,vi 164 0,vi 1 0,vi 0 0,vi 0 0,vi 3 0,vr 384,Value.bool true,vi 181 0,vr 385,vz,vr 386,vr 387,vr 388,vi 764 0,vi 164 0,vs s1 765]
noncomputable def o286:Obj:=fob (Value.type "function") s19 s188 (clsS 34 5) (scopeOf (clsS 45 14)) 3 (vs s74 579) (vr 389) 0
noncomputable def o287:Obj:=tob [vs s27 767,vs s91 768,vs s182 769,vs s43 770] 0
noncomputable def o288 (P : Params) : Obj := dob [de P s16 714 (vs s74 579),de P s18 718 (vi 144 717),de P s26 729 (vr 355),de P s178 737 (vr 362),de P s179 745 (vr 369),de P s180 752 (vr 376),de P s181 759 (vr 383),de P s19 766 (vr 390),de P s20 771 (vr 391),de P s23 773 (vr 394),de P s24 775 (vr 395),de P s5 776 vz] 4
noncomputable def o289:Obj:=(Obj.mk (Value.type "type") none (Data.cls (ClassData.mk s177 [Value.type "object"] [vr 393,Value.type "object"] 392 s177 true [] [] false none false)) #[none,none,Option.some (vs s177 707),Option.some (vs s177 715),Option.some (Value.builtin "object.__new__"),Option.some (Value.bool true)])
noncomputable def o290:Obj:=(Obj.mk (Value.type "getset_descriptor") none (Data.fields #[vs s23 772,vr 393,Value.builtin "function.__dict__",Value.builtin "function.__dict__#set"]) #[])
noncomputable def o291:Obj:=(Obj.mk (Value.type "getset_descriptor") none (Data.fields #[vs s24 774,vr 393,Value.builtin "ExceptionGroup.__weakref__",vz]) #[])
noncomputable def o292:Obj:=(Obj.mk (Value.type "super") none (Data.fields #[vr 393,vr 393,vr 393]) #[])
noncomputable def o293:Obj:=(Obj.mk (Value.type "builtin_function_or_method") none (Data.fields #[Value.builtin "object.__init_subclass__",vr 393]) #[])
noncomputable def t13 (P : Params) : BT := (bn (boot_o_0 P) (bn (boot_o_1 P) (bn (o257 P) (bn (boot_o_7 P) (bn o0 (bn o15 (bn o40 (bn o91 (bl o1) (bl o282)) (bn o140 (bl o240) bz)) (bn o0 (bn o114 (bl o211) bz) (bn o164 (bl o263) bz))) (bn o30 (bn o0 (bn o0 (bl o0) bz) (bn (o152 P) (bl o0) bz)) (bn o78 (bn o128 (bl o0) bz) (bn o174 (bl o272) bz)))) (bn o10 (bn o21 (bn (o49 P) (bn o96 (bl o189) (bl o287)) (bn o0 (bl o248) bz)) (bn o1 (bn o10 (bl o0) bz) (bn o169 (bl o0) bz))) (bn o35 (bn o60 (bn o109 (bl o203) bz) (bn o0 (bl o10) bz)) (bn o86 (bn o0 (bl o232) bz) (bn o0 (bl o277) bz))))) (bn o0 (bn o7 (bn o18 (bn o44 (bn o0 (bl o185) (bl o0)) (bn o0 (bl o0) bz)) (bn o69 (bn o118 (bl o0) bz) (bn o1 (bl o266) bz))) (bn o1 (bn o0 (bn o0 (bl o0) bz) (bn o156 (bl o254) bz)) (bn o10 (bn o131 (bl o0) bz) (bn o0 (bl o1) bz)))) (bn o13 (bn o28 (bn o52 (bn o100 (bl o193) (bl o291)) (bn o149 (bl o0) bz)) (bn o74 (bn o126 (bl o222) bz) (bn o171 (bl o0) bz))) (bn o37 (bn o0 (bn o1 (bl (o207 P)) bz) (bn o0 (bl o261) bz)) (bn o88 (bn o136 (bl (o236 P)) bz) (bn o180 (bl o279) bz)))))) (bn (boot_o_5 P) (bn (boot_o_9 P) (bn o6 (bn o16 (bn (o42 P) (bn o1 (bl o0) (bl o1)) (bn o10 (bl o244) bz)) (bn o68 (bn o116 (bl o10) bz) (bn o166 (bl o264) bz))) (bn o32 (bn o55 (bn o106 (bl o200) bz) (bn o154 (bl o253) bz)) (bn o80 (bn o129 (bl o229) bz) (bn o1 (bl o274) bz)))) (bn o0 (bn o23 (bn o50 (bn o98 (bl o191) (bl o289)) (bn o148 (bl o1) bz)) (bn o0 (bn o0 (bl o225) bz) (bn o0 (bl o269) bz))) (bn o0 (bn o10 (bn o111 (bl o205) bz) (bn o161 (bl o0) bz)) (bn o0 (bn o134 (bl o234) bz) (bn o179 (bl o0) bz))))) (bn o2 (bn o9 (bn (o19 P) (bn o28 (bn o94 (bl o187) (bl o285)) (bn o146 (bl o246) bz)) (bn o71 (bn o120 (bl o217) bz) (bn o0 (bl o1) bz))) (bn o0 (bn o58 (bn o108 (bl o202) bz) (bn o10 (bl o256) bz)) (bn o0 (bn o1 (bl o231) bz) (bn o177 (bl o0) bz)))) (bn o0 (bn (o29 P) (bn o1 (bn o10 (bl o10) (bl o293)) (bn o151 (bl o251) bz)) (bn o76 (bn o0 (bl o10) bz) (bn o172 (bl o271) bz))) (bn o38 (bn o66 (bn o0 (bl o209) bz) (bn o163 (bl o0) bz)) (bn o89 (bn o138 (bl o238) bz) (bn o182 (bl o280) bz))))))) (bn (o194 P) (bn (boot_o_4 P) (bn (boot_o_8 P) (bn o1 (bn o0 (bn o41 (bn o0 (bl o183) (bl o0)) (bn o28 (bl (o243 P)) bz)) (bn o1 (bn o115 (bl o215) bz) (bn o165 (bl o0) bz))) (bn o31 (bn o54 (bn o105 (bl o199) bz) (bn o153 (bl o1) bz)) (bn o79 (bn o0 (bl o228) bz) (bn o0 (bl o273) bz)))) (bn (o11 P) (bn o22 (bn o0 (bn (o97 P) (bl o190) (bl (o288 P))) (bn o1 (bl o0) bz)) (bn o72 (bn (o124 P) (bl (o219 P)) bz) (bn o170 (bl o268) bz))) (bn o36 (bn o28 (bn o110 (bl o204) bz) (bn o160 (bl (o259 P)) bz)) (bn o87 (bn o133 (bl o233) bz) (bn o1 (bl o278) bz))))) (bn o258 (bn o8 (bn o0 (bn o45 (bn o93 (bl o186) (bl o284)) (bn o145 (bl o1) bz)) (bn o70 (bn o119 (bl o1) bz) (bn o167 (bl o0) bz))) (bn o33 (bn (o57 P) (bn o1 (bl o1) bz) (bn o0 (bl o255) bz)) (bn (o84 P) (bn o0 (bl o1) bz) (bn o176 (bl o275) bz)))) (bn o14 (bn o10 (bn o0 (bn o28 (bl o197) (bl o292)) (bn o150 (bl o250) bz)) (bn o75 (bn o127 (bl o226) bz) (bn o0 (bl o1) bz))) (bn o0 (bn o65 (bn o112 (bl o214) bz) (bn o1 (bl o262) bz)) (bn o0 (bn (o137 P) (bl o237) bz) (bn o181 (bl o0) bz)))))) (bn (boot_o_6 P) (bn (boot_o_10 P) (bn o0 (bn o17 (bn o43 (bn o92 (bl o184) (bl o283)) (bn (o144 P) (bl o245) bz)) (bn o0 (bn (o117 P) (bl (o216 P)) bz) (bn o0 (bl o265) bz))) (bn o0 (bn o56 (bn o107 (bl o201) bz) (bn o155 (bl o0) bz)) (bn o28 (bn o130 (bl o230) bz) (bn o175 (bl o0) bz)))) (bn o12 (bn o24 (bn o51 (bn o99 (bl o192) (bl o290)) (bn o0 (bl o249) bz)) (bn o73 (bn o125 (bl o221) bz) (bn o1 (bl o270) bz))) (bn o1 (bn (o64 P) (bn o0 (bl o206) bz) (bn o162 (bl o260) bz)) (bn o1 (bn o135 (bl o235) bz) (bn o0 (bl o1) bz))))) (bn o3 (bn o0 (bn o143 (bn o10 (bn o95 (bl (o188 P)) (bl o286)) (bn o147 (bl o247) bz)) (bn o0 (bn o28 (bl o218) bz) (bn o168 (bl o267) bz))) (bn o34 (bn o59 (bn o0 (bl o0) bz) (bn (o159 P) (bl o0) bz)) (bn o85 (bn o132 (bl o0) bz) (bn o178 (bl o276) bz)))) (bn o1 (bn o0 (bn o53 (bn (o104 P) (bl (o198 P)) bz) (bn o0 (bl o252) bz)) (bn (o77 P) (bn o1 (bl (o227 P)) bz) (bn o173 (bl o0) bz))) (bn o39 (bn o67 (bn o113 (bl o210) bz) (bn o0 (bl o1) bz)) (bn o90 (bn o139 (bl o239) bz) (bn o0 (bl o281) bz))))))))
noncomputable def sts13 : List Stmt := [topS 34]
noncomputable def o294 (P : Params) : Obj := dob [de P s3 165 (vs s74 579),de P s5 166 vz,de P s6 167 vz,de P s7 168 (Value.builtin "__main__.__loader__#opaque"),de P s8 169 vz,de P s9 170 (vr 6),de P s10 171 (vr 4),de P s11 173 (vs s1 172),de P s12 174 vz,de P s13 193 (vr 21),de P s14 222 (vr 38),de P s25 254 (vr 66),de P s30 277 (vr 85),de P s32 309 (vr 111),de P s36 341 (vr 137),de P s39 373 (vr 163),de P s42 407 (vr 189),de P s47 430 (vr 208),de P s48 436 (vr 211),de P s54 504 (vr 263),de P s70 535 (vr 284),de P s73 551 (vr 297),de P s75 578 (vr 316),de P s76 582 (vs s77 581),de P s78 584 (vs s79 583),de P s80 586 (vs s81 585),de P s82 588 (vs s83 587),de P s84 590 (vs s85 589),de P s86 594 (vs s87 593),de P s88 603 (vr 319),de P s89 605 (vs s90 604),de P s101 612 (vr 320),de P s102 614 (vi 999 613),de P s103 618 (vi 9223372036854775808 617),de P s104 677 (vr 321),de P s105 686 (vr 322),de P s106 692 (vr 327),de P s107 699 (vr 334),de P s108 706 (vr 341),de P s177 778 (vr 393),de P s189 933 (vr 498)] 41
noncomputable def o295:Obj:=(Obj.mk vz none (Data.fields #[vi 1 0,vi 0 0,vr 20,vi 5 0,vi 0 0,vr 27,vi 9 0,vi 0 0,vr 48,vi 16 0,vi 0 0,vr 74,vi 20 0,vi 0 0,vr 93,vi 27 0,vi 0 0,vr 119,vi 34 0,vi 0 0,vr 145,vi 41 0,vi 0 0,vr 171,vi 49 0,vi 0 0,vr 197,vi 55 0,vi 0 0,vr 217,vi 111 0,vi 0 0,vr 273,vi 115 0,vi 0 0,vr 293,vi 117 0,vi 0 0,vr 305,vi 136 0,vi 0 0,vr 326,vi 140 0,vi 0 0,vr 333,vi 142 0,vi 0 0,vr 340,vi 144 0,vi 0 0,vr 347,vi 166 0,vi 0 0,vr 403]) #[])
noncomputable def o296 (P : Params) : Obj := dob [de P s16 786 (vs s74 579),de P s17 788 (vs s189 787),de P s18 790 (vi 166 789),de P s26 798 (vr 411),de P s190 809 (vr 418),de P s191 817 (vr 425),de P s192 826 (vr 432),de P s193 836 (vr 439),de P s194 847 (vr 446),de P s195 858 (vr 453),de P s196 868 (vr 460),de P s197 878 (vr 467),de P s198 889 (vr 474),de P s199 900 (vr 481),de P s200 911 (vr 488),de P s201 921 (vr 495),de P s20 926 (vr 496)] 17
noncomputable def o297:Obj:=(Obj.mk vz none (Data.fields #[vi 168 0,vi 4 0,vr 410,vi 174 0,vi 4 0,vr 417,vi 178 0,vi 4 0,vr 424,vi 181 0,vi 4 0,vr 431,vi 198 0,vi 4 0,vr 438,vi 204 0,vi 4 0,vr 445,vi 215 0,vi 4 0,vr 452,vi 227 0,vi 4 0,vr 459,vi 237 0,vi 4 0,vr 466,vi 246 0,vi 4 0,vr 473,vi 265 0,vi 4 0,vr 480,vi 273 0,vi 4 0,vr 487,vi 291 0,vi 4 0,vr 494]) #[])
noncomputable def o298:Obj:=cob [vs s189 781,vs s189 782,vs s1 783,vi 166 0,vi 0 0,vi 0 0,vi 0 0,vi 0 0,vr 401,Value.bool false,vi 181 0,vr 402,vz,vz,vz,vz,vi 784 0,vi 166 0,vs s1 785]
noncomputable def o299:Obj:=(Obj.mk (Value.type "frame") none Data.plain #[Option.some (vr 403),Option.some (vr 3),Option.some (vr 400),none,Option.some (vs s74 579),none,Option.some (vr 0)])
noncomputable def o300:Obj:=tob [vs s21 794,vs s182 795] 0
noncomputable def o301:Obj:=fob vz s26 s202 (clsS 35 0) (scopeOf (clsS 45 13)) 0 vz vz 0
noncomputable def o302:Obj:=cob [vs s26 791,vs s202 792,vs s1 793,vi 168 0,vi 2 0,vi 0 0,vi 0 0,vi 3 0,vr 405,Value.bool true,vi 181 0,vr 406,vz,vr 407,vr 408,vr 409,vi 796 0,vi 168 0,vs s1 797]
noncomputable def o303:Obj:=fob (Value.type "function") s26 s202 (clsS 35 0) (scopeOf (clsS 45 13)) 3 (vs s74 579) (vr 410) 0
noncomputable def o304:Obj:=tob [vs s21 802,vs s27 803,vs s182 804,vs s43 805,vs s203 806] 0
noncomputable def o305:Obj:=fob vz s190 s204 (clsS 35 1) (scopeOf (clsS 35 1)) 0 vz vz 0
noncomputable def o306:Obj:=cob [vs s190 799,vs s204 800,vs s1 801,vi 174 0,vi 5 0,vi 0 0,vi 0 0,vi 3 0,vr 412,Value.bool true,vi 181 0,vr 413,vz,vr 414,vr 415,vr 416,vi 807 0,vi 174 0,vs s1 808]
noncomputable def o307:Obj:=fob (Value.type "function") s190 s204 (clsS 35 1) (scopeOf (clsS 35 1)) 3 (vs s74 579) (vr 417) 0
noncomputable def o308:Obj:=tob [vs s21 813,vs s71 814] 0
noncomputable def o309:Obj:=fob vz s191 s205 (clsS 35 2) (scopeOf (clsS 45 4)) 0 vz vz 0
noncomputable def o310:Obj:=cob [vs s191 810,vs s205 811,vs s1 812,vi 178 0,vi 2 0,vi 0 0,vi 0 0,vi 3 0,vr 419,Value.bool true,vi 181 0,vr 420,vz,vr 421,vr 422,vr 423,vi 815 0,vi 178 0,vs s1 816]
noncomputable def o311:Obj:=fob (Value.type "function") s191 s205 (clsS 35 2) (scopeOf (clsS 45 4)) 3 (vs s74 579) (vr 424) 0
noncomputable def o312:Obj:=tob [vs s21 821,vs s206 822,vs s176 823] 0
noncomputable def o313:Obj:=fob vz s192 s207 (clsS 35 3) (scopeOf (clsS 35 3)) 0 vz vz 0
noncomputable def o314:Obj:=cob [vs s192 818,vs s207 819,vs s1 820,vi 181 0,vi 1 0,vi 0 0,vi 0 0,vi 3 0,vr 426,Value.bool true,vi 181 0,vr 427,vz,vr 428,vr 429,vr 430,vi 824 0,vi 181 0,vs s1 825]
noncomputable def o315:Obj:=fob (Value.type "function") s192 s207 (clsS 35 3) (scopeOf (clsS 35 3)) 3 (vs s74 579) (vr 431) 0
noncomputable def o316:Obj:=tob [vs s21 830,vs s208 831,vs s203 832,vs s182 833] 0
noncomputable def o317:Obj:=fob vz s193 s209 (clsS 35 4) (scopeOf (clsS 35 4)) 0 vz vz 0
noncomputable def o318:Obj:=cob [vs s193 827,vs s209 828,vs s1 829,vi 198 0,vi 3 0,vi 0 0,vi 0 0,vi 3 0,vr 433,Value.bool true,vi 181 0,vr 434,vz,vr 435,vr 436,vr 437,vi 834 0,vi 198 0,vs s1 835]
noncomputable def o319:Obj:=fob (Value.type "function") s193 s209 (clsS 35 4) (scopeOf (clsS 35 4)) 3 (vs s74 579) (vr 438) 0
noncomputable def o320:Obj:=tob [vs s21 840,vs s176 841,vs s182 842,vs s203 843,vs s210 844] 0
noncomputable def o321:Obj:=fob vz s194 s211 (clsS 35 5) (scopeOf (clsS 35 5)) 0 vz vz 0
noncomputable def o322:Obj:=cob [vs s194 837,vs s211 838,vs s1 839,vi 204 0,vi 2 0,vi 0 0,vi 0 0,vi 3 0,vr 440,Value.bool true,vi 181 0,vr 441,vz,vr 442,vr 443,vr 444,vi 845 0,vi 204 0,vs s1 846]
noncomputable def o323:Obj:=fob (Value.type "function") s194 s211 (clsS 35 5) (scopeOf (clsS 35 5)) 3 (vs s74 579) (vr 445) 0
noncomputable def o324:Obj:=tob [vs s21 851,vs s212 852,vs s56 853,vs s213 854,vs s203 855] 0
noncomputable def o325:Obj:=fob vz s195 s214 (clsS 35 6) (scopeOf (clsS 35 6)) 0 vz vz 0
noncomputable def o326:Obj:=cob [vs s195 848,vs s214 849,vs s1 850,vi 215 0,vi 3 0,vi 0 0,vi 0 0,vi 3 0,vr 447,Value.bool true,vi 181 0,vr 448,vz,vr 449,vr 450,vr 451,vi 856 0,vi 215 0,vs s1 857]
noncomputable def o327:Obj:=fob (Value.type "function") s195 s214 (clsS 35 6) (scopeOf (clsS 35 6)) 3 (vs s74 579) (vr 452) 0
noncomputable def o328:Obj:=tob [vs s21 862,vs s212 863,vs s203 864,vs s43 865] 0
noncomputable def o329:Obj:=fob vz s196 s215 (clsS 35 7) (scopeOf (clsS 35 7)) 0 vz vz 0
noncomputable def o330:Obj:=cob [vs s196 859,vs s215 860,vs s1 861,vi 227 0,vi 2 0,vi 0 0,vi 0 0,vi 3 0,vr 454,Value.bool true,vi 181 0,vr 455,vz,vr 456,vr 457,vr 458,vi 866 0,vi 227 0,vs s1 867]
noncomputable def o331:Obj:=fob (Value.type "function") s196 s215 (clsS 35 7) (scopeOf (clsS 35 7)) 3 (vs s74 579) (vr 459) 0
noncomputable def o332:Obj:=tob [vs s21 872,vs s216 873,vs s203 874,vs s176 875] 0
noncomputable def o333:Obj:=fob vz s197 s217 (clsS 35 8) (scopeOf (clsS 35 8)) 0 vz vz 0
noncomputable def o334:Obj:=cob [vs s197 869,vs s217 870,vs s1 871,vi 237 0,vi 1 0,vi 0 0,vi 0 0,vi 3 0,vr 461,Value.bool true,vi 181 0,vr 462,vz,vr 463,vr 464,vr 465,vi 876 0,vi 237 0,vs s1 877]
noncomputable def o335:Obj:=fob (Value.type "function") s197 s217 (clsS 35 8) (scopeOf (clsS 35 8)) 3 (vs s74 579) (vr 466) 0
noncomputable def o336:Obj:=tob [vs s21 882,vs s56 883,vs s203 884,vs s43 885,vs s218 886] 0
noncomputable def o337:Obj:=fob vz s198 s219 (clsS 35 9) (scopeOf (clsS 35 9)) 0 vz vz 0
noncomputable def o338:Obj:=cob [vs s198 879,vs s219 880,vs s1 881,vi 246 0,vi 1 0,vi 0 0,vi 0 0,vi 3 0,vr 468,Value.bool true,vi 181 0,vr 469,vz,vr 470,vr 471,vr 472,vi 887 0,vi 246 0,vs s1 888]
noncomputable def o339:Obj:=fob (Value.type "function") s198 s219 (clsS 35 9) (scopeOf (clsS 35 9)) 3 (vs s74 579) (vr 473) 0
noncomputable def o340:Obj:=tob [vs s21 893,vs s56 894,vs s203 895,vs s220 896,vs s216 897] 0
noncomputable def o341:Obj:=fob vz s199 s221 (clsS 35 10) (scopeOf (clsS 35 10)) 0 vz vz 0
noncomputable def o342:Obj:=cob [vs s199 890,vs s221 891,vs s1 892,vi 265 0,vi 4 0,vi 0 0,vi 0 0,vi 3 0,vr 475,Value.bool true,vi 181 0,vr 476,vz,vr 477,vr 478,vr 479,vi 898 0,vi 265 0,vs s1 899]
noncomputable def o343:Obj:=fob (Value.type "function") s199 s221 (clsS 35 10) (scopeOf (clsS 35 10)) 3 (vs s74 579) (vr 480) 0
noncomputable def o344:Obj:=tob [vs s21 904,vs s176 905,vs s182 906,vs s222 907,vs s203 908] 0
noncomputable def o345:Obj:=fob vz s200 s223 (clsS 35 11) (scopeOf (clsS 35 11)) 0 vz vz 0
noncomputable def o346:Obj:=cob [vs s200 901,vs s223 902,vs s1 903,vi 273 0,vi 2 0,vi 0 0,vi 0 0,vi 3 0,vr 482,Value.bool true,vi 181 0,vr 483,vz,vr 484,vr 485,vr 486,vi 909 0,vi 273 0,vs s1 910]
noncomputable def o347:Obj:=fob (Value.type "function") s200 s223 (clsS 35 11) (scopeOf (clsS 35 11)) 3 (vs s74 579) (vr 487) 0
noncomputable def o348:Obj:=tob [vs s21 915,vs s56 916,vs s203 917,vs s198 918] 0
noncomputable def o349:Obj:=fob vz s201 s224 (clsS 35 12) (scopeOf (clsS 35 12)) 0 vz vz 0
noncomputable def o350:Obj:=cob [vs s201 912,vs s224 913,vs s1 914,vi 291 0,vi 1 0,vi 0 0,vi 0 0,vi 3 0,vr 489,Value.bool true,vi 181 0,vr 490,vz,vr 491,vr 492,vr 493,vi 919 0,vi 291 0,vs s1 920]
noncomputable def o351:Obj:=fob (Value.type "function") s201 s224 (clsS 35 12) (scopeOf (clsS 35 12)) 3 (vs s74 579) (vr 494) 0
noncomputable def o352:Obj:=tob [vs s225 922,vs s226 923,vs s91 924,vs s182 925] 0
noncomputable def o353 (P : Params) : Obj := dob [de P s16 786 (vs s74 579),de P s18 790 (vi 166 789),de P s26 798 (vr 411),de P s190 809 (vr 418),de P s191 817 (vr 425),de P s192 826 (vr 432),de P s193 836 (vr 439),de P s194 847 (vr 446),de P s195 858 (vr 453),de P s196 868 (vr 460),de P s197 878 (vr 467),de P s198 889 (vr 474),de P s199 900 (vr 481),de P s200 911 (vr 488),de P s201 921 (vr 495),de P s20 926 (vr 496),de P s23 928 (vr 499),de P s24 930 (vr 500),de P s5 931 vz] 4
noncomputable def o354:Obj:=(Obj.mk (Value.type "type") none (Data.cls (ClassData.mk s189 [Value.type "object"] [vr 498,Value.type "object"] 497 s189 true [] [] false none false)) #[none,none,Option.some (vs s189 779),Option.some (vs s189 787),Option.some (Value.builtin "object.__new__"),Option.some (Value.bool true)])
noncomputable def o355:Obj:=(Obj.mk (Value.type "getset_descriptor") none (Data.fields #[vs s23 927,vr 498,Value.builtin "function.__dict__",Value.builtin "function.__dict__#set"]) #[])
noncomputable def o356:Obj:=(Obj.mk (Value.type "getset_descriptor") none (Data.fields #[vs s24 929,vr 498,Value.builtin "ExceptionGroup.__weakref__",vz]) #[])
noncomputable def o357:Obj:=(Obj.mk (Value.type "super") none (Data.fields #[vr 498,vr 498,vr 498]) #[])
noncomputable def o358:Obj:=(Obj.mk (Value.type "builtin_function_or_method") none (Data.fields #[Value.builtin "object.__init_subclass__",vr 498]) #[])
noncomputable def t14 (P : Params) : BT := (bn (boot_o_0 P) (bn (boot_o_1 P) (bn (o294 P) (bn (boot_o_7 P) (bn o0 (bn o15 (bn o40 (bn o91 (bl o1) (bl o282)) (bn o140 (bl o240) (bl o0))) (bn o0 (bn o114 (bl o211) (bl o0)) (bn o164 (bl o263) (bl o341)))) (bn o30 (bn o0 (bn o0 (bl o0) (bl o10)) (bn (o152 P) (bl o0) (bl o332))) (bn o78 (bn o128 (bl o0) (bl o314)) (bn o174 (bl o272) (bl o351))))) (bn o10 (bn o21 (bn (o49 P) (bn o96 (bl o189) (bl o287)) (bn o0 (bl o248) (bl o1))) (bn o1 (bn o10 (bl o0) (bl o309)) (bn o169 (bl o0) (bl o346)))) (bn o35 (bn o60 (bn o109 (bl o203) (bl o300)) (bn o0 (bl o10) (bl o0))) (bn o86 (bn o0 (bl o232) (bl o319)) (bn o0 (bl o277) bz))))) (bn o0 (bn o7 (bn o18 (bn o44 (bn o0 (bl o185) (bl o0)) (bn o0 (bl o0) (bl o325))) (bn o69 (bn o118 (bl o0) (bl o0)) (bn o1 (bl o266) (bl o1)))) (bn o1 (bn o0 (bn o0 (bl o0) (bl o298)) (bn o156 (bl o254) (bl o335))) (bn o10 (bn o131 (bl o0) (bl o316)) (bn o0 (bl o1) (bl o355))))) (bn o13 (bn o28 (bn o52 (bn o100 (bl o193) (bl o291)) (bn o149 (bl o0) (bl o330))) (bn o74 (bn o126 (bl o222) (bl o1)) (bn o171 (bl o0) (bl o348)))) (bn o37 (bn o0 (bn o1 (bl (o207 P)) (bl o303)) (bn o0 (bl o261) (bl o0))) (bn o88 (bn o136 (bl (o236 P)) (bl o0)) (bn o180 (bl o279) bz)))))) (bn (boot_o_5 P) (bn (boot_o_9 P) (bn o6 (bn o16 (bn (o42 P) (bn o1 (bl o0) (bl o1)) (bn o10 (bl o244) (bl o324))) (bn o68 (bn o116 (bl o10) (bl o306)) (bn o166 (bl o264) (bl o343)))) (bn o32 (bn o55 (bn o106 (bl o200) (bl o0)) (bn o154 (bl o253) (bl o333))) (bn o80 (bn o129 (bl o229) (bl o0)) (bn o1 (bl o274) (bl (o353 P)))))) (bn o0 (bn o23 (bn o50 (bn o98 (bl o191) (bl o289)) (bn o148 (bl o1) (bl o0))) (bn o0 (bn o0 (bl o225) (bl o311)) (bn o0 (bl o269) (bl o0)))) (bn o0 (bn o10 (bn o111 (bl o205) (bl o301)) (bn o161 (bl o0) (bl o338))) (bn o0 (bn o134 (bl o234) (bl o1)) (bn o179 (bl o0) bz))))) (bn o2 (bn o9 (bn (o19 P) (bn o28 (bn o94 (bl o187) (bl o285)) (bn o146 (bl o246) (bl o327))) (bn o71 (bn o120 (bl o217) (bl o308)) (bn o0 (bl o1) (bl o0)))) (bn o0 (bn o58 (bn o108 (bl o202) (bl o0)) (bn o10 (bl o256) (bl o1))) (bn o0 (bn o1 (bl o231) (bl o317)) (bn o177 (bl o0) (bl o357))))) (bn o0 (bn (o29 P) (bn o1 (bn o10 (bl o10) (bl o293)) (bn o151 (bl o251) (bl o0))) (bn o76 (bn o0 (bl o10) (bl o0)) (bn o172 (bl o271) (bl o349)))) (bn o38 (bn o66 (bn o0 (bl o209) (bl o1)) (bn o163 (bl o0) (bl o340))) (bn o89 (bn o138 (bl o238) (bl o322)) (bn o182 (bl o280) bz))))))) (bn (o194 P) (bn (boot_o_4 P) (bn (boot_o_8 P) (bn o1 (bn o0 (bn o41 (bn o0 (bl o183) (bl o0)) (bn o28 (bl (o243 P)) (bl o1))) (bn o1 (bn o115 (bl o215) (bl o305)) (bn o165 (bl o0) (bl o342)))) (bn o31 (bn o54 (bn o105 (bl o199) (bl (o296 P))) (bn o153 (bl o1) (bl o0))) (bn o79 (bn o0 (bl o228) (bl o315)) (bn o0 (bl o273) (bl o352))))) (bn (o11 P) (bn o22 (bn o0 (bn (o97 P) (bl o190) (bl (o288 P))) (bn o1 (bl o0) (bl o328))) (bn o72 (bn (o124 P) (bl (o219 P)) (bl o310)) (bn o170 (bl o268) (bl o347)))) (bn o36 (bn o28 (bn o110 (bl o204) (bl o0)) (bn o160 (bl (o259 P)) (bl o337))) (bn o87 (bn o133 (bl o233) (bl o0)) (bn o1 (bl o278) bz))))) (bn o295 (bn o8 (bn o0 (bn o45 (bn o93 (bl o186) (bl o284)) (bn o145 (bl o1) (bl o326))) (bn o70 (bn o119 (bl o1) (bl o1)) (bn o167 (bl o0) (bl o344)))) (bn o33 (bn (o57 P) (bn o1 (bl o1) (bl o299)) (bn o0 (bl o255) (bl o0))) (bn (o84 P) (bn o0 (bl o1) (bl o0)) (bn o176 (bl o275) (bl o356))))) (bn o14 (bn o10 (bn o0 (bn o28 (bl o197) (bl o292)) (bn o150 (bl o250) (bl o331))) (bn o75 (bn o127 (bl o226) (bl o312)) (bn o0 (bl o1) (bl o0)))) (bn o0 (bn o65 (bn o112 (bl o214) (bl o0)) (bn o1 (bl o262) (bl o1))) (bn o0 (bn (o137 P) (bl o237) (bl o321)) (bn o181 (bl o0) bz)))))) (bn (boot_o_6 P) (bn (boot_o_10 P) (bn o0 (bn o17 (bn o43 (bn o92 (bl o184) (bl o283)) (bn (o144 P) (bl o245) (bl o0))) (bn o0 (bn (o117 P) (bl (o216 P)) (bl o307)) (bn o0 (bl o265) (bl o0)))) (bn o0 (bn o56 (bn o107 (bl o201) (bl o297)) (bn o155 (bl o0) (bl o334))) (bn o28 (bn o130 (bl o230) (bl o1)) (bn o175 (bl o0) (bl o354))))) (bn o12 (bn o24 (bn o51 (bn o99 (bl o192) (bl o290)) (bn o0 (bl o249) (bl o329))) (bn o73 (bn o125 (bl o221) (bl o0)) (bn o1 (bl o270) (bl o1)))) (bn o1 (bn (o64 P) (bn o0 (bl o206) (bl o302)) (bn o162 (bl o260) (bl o339))) (bn o1 (bn o135 (bl o235) (bl o320)) (bn o0 (bl o1) bz))))) (bn o3 (bn o0 (bn o143 (bn o10 (bn o95 (bl (o188 P)) (bl o286)) (bn o147 (bl o247) (bl o0))) (bn o0 (bn o28 (bl o218) (bl o0)) (bn o168 (bl o267) (bl o345)))) (bn o34 (bn o59 (bn o0 (bl o0) (bl o1)) (bn (o159 P) (bl o0) (bl o336))) (bn o85 (bn o132 (bl o0) (bl o318)) (bn o178 (bl o276) (bl o358))))) (bn o1 (bn o0 (bn o53 (bn (o104 P) (bl (o198 P)) (bl o0)) (bn o0 (bl o252) (bl o1))) (bn (o77 P) (bn o1 (bl (o227 P)) (bl o313)) (bn o173 (bl o0) (bl o350)))) (bn o39 (bn o67 (bn o113 (bl o210) (bl o304)) (bn o0 (bl o1) (bl o0))) (bn o90 (bn o139 (bl o239) (bl o323)) (bn o0 (bl o281) bz))))))))
noncomputable def sts14 : List Stmt := [topS 35]
noncomputable def o359 (P : Params) : Obj := dob [de P s3 165 (vs s227 1004),de P s5 166 vz,de P s6 167 vz,de P s7 168 (Value.builtin "__main__.__loader__#opaque"),de P s8 169 vz,de P s9 170 (vr 6),de P s10 171 (vr 4),de P s11 173 (vs s1 172),de P s12 174 vz,de P s13 193 (vr 21),de P s14 222 (vr 38),de P s25 254 (vr 66),de P s30 277 (vr 85),de P s32 309 (vr 111),de P s36 341 (vr 137),de P s39 373 (vr 163),de P s42 407 (vr 189),de P s47 430 (vr 208),de P s48 436 (vr 211),de P s54 504 (vr 263),de P s70 535 (vr 284),de P s73 551 (vr 297),de P s75 578 (vr 316),de P s76 582 (vs s77 581),de P s78 584 (vs s79 583),de P s80 586 (vs s81 585),de P s82 588 (vs s83 587),de P s84 590 (vs s85 589),de P s86 594 (vs s87 593),de P s88 603 (vr 319),de P s89 605 (vs s90 604),de P s101 612 (vr 320),de P s102 614 (vi 999 613),de P s103 618 (vi 9223372036854775808 617),de P s104 677 (vr 321),de P s105 686 (vr 322),de P s106 692 (vr 327),de P s107 699 (vr 334),de P s108 706 (vr 341),de P s177 778 (vr 393),de P s189 933 (vr 498),de P s228 940 (vr 509),de P s229 970 (vr 510),de P s230 979 (vr 517),de P s231 986 (vr 524),de P s232 993 (vr 531),de P s233 1003 (vr 538)] 47
noncomputable def o360:Obj:=(Obj.mk vz none (Data.fields #[vi 1 0,vi 0 0,vr 20,vi 5 0,vi 0 0,vr 27,vi 9 0,vi 0 0,vr 48,vi 16 0,vi 0 0,vr 74,vi 20 0,vi 0 0,vr 93,vi 27 0,vi 0 0,vr 119,vi 34 0,vi 0 0,vr 145,vi 41 0,vi 0 0,vr 171,vi 49 0,vi 0 0,vr 197,vi 55 0,vi 0 0,vr 217,vi 111 0,vi 0 0,vr 273,vi 115 0,vi 0 0,vr 293,vi 117 0,vi 0 0,vr 305,vi 136 0,vi 0 0,vr 326,vi 140 0,vi 0 0,vr 333,vi 142 0,vi 0 0,vr 340,vi 144 0,vi 0 0,vr 347,vi 166 0,vi 0 0,vr 403,vi 299 0,vi 0 0,vr 508,vi 303 0,vi 0 0,vr 516,vi 313 0,vi 0 0,vr 523,vi 315 0,vi 0 0,vr 530,vi 324 0,vi 0 0,vr 537]) #[])
noncomputable def o361:Obj:=tob [vs s182 937] 0
noncomputable def o362:Obj:=fob vz s228 s228 (topS 36) (scopeOf (topS 36)) 0 vz vz 0
noncomputable def o363:Obj:=cob [vs s228 934,vs s228 935,vs s1 936,vi 299 0,vi 1 0,vi 0 0,vi 0 0,vi 3 0,vr 503,Value.bool true,vi 181 0,vr 504,vz,vr 505,vr 506,vr 507,vi 938 0,vi 299 0,vs s1 939]
noncomputable def o364:Obj:=fob (Value.type "function") s228 s228 (topS 36) (scopeOf (topS 36)) 3 (vs s74 579) (vr 508) 0
noncomputable def o365:Obj:=tob [vs s234 943,vs s235 944,vs s236 945,vs s237 946,vs s238 947,vs s50 948,vs s239 949,vs s240 950,vs s52 951,vs s241 952,vs s242 953,vs s243 954,vs s244 955,vs s245 956,vs s51 957,vs s246 958,vs s247 959,vs s248 960,vs s249 961,vs s250 962,vs s251 963,vs s252 964,vs s253 965,vs s159 966,vs s160 967,vs s254 968,vs s255 969] 0
noncomputable def o366:Obj:=tob [vs s33 974,vs s256 975,vs s176 976] 0
noncomputable def o367:Obj:=fob vz s230 s230 (topS 39) (scopeOf (topS 39)) 0 vz vz 0
noncomputable def o368:Obj:=cob [vs s230 971,vs s230 972,vs s1 973,vi 303 0,vi 1 0,vi 0 0,vi 0 0,vi 3 0,vr 511,Value.bool true,vi 181 0,vr 512,vz,vr 513,vr 514,vr 515,vi 977 0,vi 303 0,vs s1 978]
noncomputable def o369:Obj:=fob (Value.type "function") s230 s230 (topS 39) (scopeOf (topS 39)) 3 (vs s257 941) (vr 516) 0
noncomputable def o370:Obj:=tob [vs s33 983] 0
noncomputable def o371:Obj:=fob vz s231 s231 (topS 40) (scopeOf (topS 40)) 0 vz vz 0
noncomputable def o372:Obj:=cob [vs s231 980,vs s231 981,vs s1 982,vi 313 0,vi 1 0,vi 0 0,vi 0 0,vi 3 0,vr 518,Value.bool true,vi 181 0,vr 519,vz,vr 520,vr 521,vr 522,vi 984 0,vi 313 0,vs s1 985]
noncomputable def o373:Obj:=fob (Value.type "function") s231 s231 (topS 40) (scopeOf (topS 40)) 3 (vs s257 941) (vr 523) 0
noncomputable def o374:Obj:=tob [vs s43 990] 0
noncomputable def o375:Obj:=fob vz s232 s232 (topS 41) (scopeOf (topS 41)) 0 vz vz 0
noncomputable def o376:Obj:=cob [vs s232 987,vs s232 988,vs s1 989,vi 315 0,vi 1 0,vi 0 0,vi 0 0,vi 3 0,vr 525,Value.bool true,vi 181 0,vr 526,vz,vr 527,vr 528,vr 529,vi 991 0,vi 315 0,vs s1 992]
noncomputable def o377:Obj:=fob (Value.type "function") s232 s232 (topS 41) (scopeOf (topS 41)) 3 (vs s257 941) (vr 530) 0
noncomputable def o378:Obj:=tob [vs s258 999,vs s182 1000] 0
noncomputable def o379:Obj:=fob vz s233 s233 (topS 43) (scopeOf (topS 43)) 0 vz vz 0
noncomputable def o380:Obj:=cob [vs s233 996,vs s233 997,vs s1 998,vi 324 0,vi 1 0,vi 0 0,vi 0 0,vi 3 0,vr 532,Value.bool true,vi 181 0,vr 533,vz,vr 534,vr 535,vr 536,vi 1001 0,vi 324 0,vs s1 1002]
noncomputable def o381:Obj:=fob (Value.type "function") s233 s233 (topS 43) (scopeOf (topS 43)) 3 (vs s259 994) (vr 537) 0
noncomputable def t15 (P : Params) : BT := (bn (boot_o_0 P) (bn (boot_o_1 P) (bn (o359 P) (bn (boot_o_7 P) (bn o0 (bn o15 (bn o40 (bn o91 (bn o1 (bl o0) bz) (bl o282)) (bn o140 (bl o240) (bl o0))) (bn o0 (bn o114 (bl o211) (bl o0)) (bn o164 (bl o263) (bl o341)))) (bn o30 (bn o0 (bn o0 (bn o0 (bl o374) bz) (bl o10)) (bn (o152 P) (bl o0) (bl o332))) (bn o78 (bn o128 (bl o0) (bl o314)) (bn o174 (bl o272) (bl o351))))) (bn o10 (bn o21 (bn (o49 P) (bn o96 (bn o189 (bl o1) bz) (bl o287)) (bn o0 (bl o248) (bl o1))) (bn o1 (bn o10 (bl o0) (bl o309)) (bn o169 (bl o0) (bl o346)))) (bn o35 (bn o60 (bn o109 (bn o203 (bl o0) bz) (bl o300)) (bn o0 (bl o10) (bl o0))) (bn o86 (bn o0 (bl o232) (bl o319)) (bn o0 (bl o277) (bl o0)))))) (bn o0 (bn o7 (bn o18 (bn o44 (bn o0 (bn o185 (bl o367) bz) (bl o0)) (bn o0 (bl o0) (bl o325))) (bn o69 (bn o118 (bl o0) (bl o0)) (bn o1 (bl o266) (bl o1)))) (bn o1 (bn o0 (bn o0 (bn o0 (bl o377) bz) (bl o298)) (bn o156 (bl o254) (bl o335))) (bn o10 (bn o131 (bl o0) (bl o316)) (bn o0 (bl o1) (bl o355))))) (bn o13 (bn o28 (bn o52 (bn o100 (bn o193 (bl o372) bz) (bl o291)) (bn o149 (bl o0) (bl o330))) (bn o74 (bn o126 (bl o222) (bl o1)) (bn o171 (bl o0) (bl o348)))) (bn o37 (bn o0 (bn o1 (bl (o207 P)) (bl o303)) (bn o0 (bl o261) (bl o0))) (bn o88 (bn o136 (bl (o236 P)) (bl o0)) (bn o180 (bl o279) (bl o362))))))) (bn (boot_o_5 P) (bn (boot_o_9 P) (bn o6 (bn o16 (bn (o42 P) (bn o1 (bn o0 (bl o366) bz) (bl o1)) (bn o10 (bl o244) (bl o324))) (bn o68 (bn o116 (bl o10) (bl o306)) (bn o166 (bl o264) (bl o343)))) (bn o32 (bn o55 (bn o106 (bn o200 (bl o375) bz) (bl o0)) (bn o154 (bl o253) (bl o333))) (bn o80 (bn o129 (bl o229) (bl o0)) (bn o1 (bl o274) (bl (o353 P)))))) (bn o0 (bn o23 (bn o50 (bn o98 (bn o191 (bl o0) bz) (bl o289)) (bn o148 (bl o1) (bl o0))) (bn o0 (bn o0 (bl o225) (bl o311)) (bn o0 (bl o269) (bl o0)))) (bn o0 (bn o10 (bn o111 (bn o205 (bl o380) bz) (bl o301)) (bn o161 (bl o0) (bl o338))) (bn o0 (bn o134 (bl o234) (bl o1)) (bn o179 (bl o0) (bl o361)))))) (bn o2 (bn o9 (bn (o19 P) (bn o28 (bn o94 (bn o187 (bl o369) bz) (bl o285)) (bn o146 (bl o246) (bl o327))) (bn o71 (bn o120 (bl o217) (bl o308)) (bn o0 (bl o1) (bl o0)))) (bn o0 (bn o58 (bn o108 (bn o202 (bl o1) bz) (bl o0)) (bn o10 (bl o256) (bl o1))) (bn o0 (bn o1 (bl o231) (bl o317)) (bn o177 (bl o0) (bl o357))))) (bn o0 (bn (o29 P) (bn o1 (bn o10 (bn o10 (bl o0) bz) (bl o293)) (bn o151 (bl o251) (bl o0))) (bn o76 (bn o0 (bl o10) (bl o0)) (bn o172 (bl o271) (bl o349)))) (bn o38 (bn o66 (bn o0 (bl o209) (bl o1)) (bn o163 (bl o0) (bl o340))) (bn o89 (bn o138 (bl o238) (bl o322)) (bn o182 (bl o280) (bl o364)))))))) (bn (o194 P) (bn (boot_o_4 P) (bn (boot_o_8 P) (bn o1 (bn o0 (bn o41 (bn o0 (bn o183 (bl o1) bz) (bl o0)) (bn o28 (bl (o243 P)) (bl o1))) (bn o1 (bn o115 (bl o215) (bl o305)) (bn o165 (bl o0) (bl o342)))) (bn o31 (bn o54 (bn o105 (bn o199 (bl o0) bz) (bl (o296 P))) (bn o153 (bl o1) (bl o0))) (bn o79 (bn o0 (bl o228) (bl o315)) (bn o0 (bl o273) (bl o352))))) (bn (o11 P) (bn o22 (bn o0 (bn (o97 P) (bn o190 (bl o370) bz) (bl (o288 P))) (bn o1 (bl o0) (bl o328))) (bn o72 (bn (o124 P) (bl (o219 P)) (bl o310)) (bn o170 (bl o268) (bl o347)))) (bn o36 (bn o28 (bn o110 (bn o204 (bl o379) bz) (bl o0)) (bn o160 (bl (o259 P)) (bl o337))) (bn o87 (bn o133 (bl o233) (bl o0)) (bn o1 (bl o278) (bl o1)))))) (bn o360 (bn o8 (bn o0 (bn o45 (bn o93 (bn o186 (bl o368) bz) (bl o284)) (bn o145 (bl o1) (bl o326))) (bn o70 (bn o119 (bl o1) (bl o1)) (bn o167 (bl o0) (bl o344)))) (bn o33 (bn (o57 P) (bn o1 (bn o1 (bl o0) bz) (bl o299)) (bn o0 (bl o255) (bl o0))) (bn (o84 P) (bn o0 (bl o1) (bl o0)) (bn o176 (bl o275) (bl o356))))) (bn o14 (bn o10 (bn o0 (bn o28 (bn o197 (bl o373) bz) (bl o292)) (bn o150 (bl o250) (bl o331))) (bn o75 (bn o127 (bl o226) (bl o312)) (bn o0 (bl o1) (bl o0)))) (bn o0 (bn o65 (bn o112 (bl o214) (bl o0)) (bn o1 (bl o262) (bl o1))) (bn o0 (bn (o137 P) (bl o237) (bl o321)) (bn o181 (bl o0) (bl o363))))))) (bn (boot_o_6 P) (bn (boot_o_10 P) (bn o0 (bn o17 (bn o43 (bn o92 (bn o184 (bl o0) bz) (bl o283)) (bn (o144 P) (bl o245) (bl o0))) (bn o0 (bn (o117 P) (bl (o216 P)) (bl o307)) (bn o0 (bl o265) (bl o0)))) (bn o0 (bn o56 (bn o107 (bn o201 (bl o376) bz) (bl o297)) (bn o155 (bl o0) (bl o334))) (bn o28 (bn o130 (bl o230) (bl o1)) (bn o175 (bl o0) (bl o354))))) (bn o12 (bn o24 (bn o51 (bn o99 (bn o192 (bl o371) bz) (bl o290)) (bn o0 (bl o249) (bl o329))) (bn o73 (bn o125 (bl o221) (bl o0)) (bn o1 (bl o270) (bl o1)))) (bn o1 (bn (o64 P) (bn o0 (bn o206 (bl o381) bz) (bl o302)) (bn o162 (bl o260) (bl o339))) (bn o1 (bn o135 (bl o235) (bl o320)) (bn o0 (bl o1) (bl o0)))))) (bn o3 (bn o0 (bn o143 (bn o10 (bn o95 (bn (o188 P) (bl o0) bz) (bl o286)) (bn o147 (bl o247) (bl o0))) (bn o0 (bn o28 (bl o218) (bl o0)) (bn o168 (bl o267) (bl o345)))) (bn o34 (bn o59 (bn o0 (bn o0 (bl o378) bz) (bl o1)) (bn (o159 P) (bl o0) (bl o336))) (bn o85 (bn o132 (bl o0) (bl o318)) (bn o178 (bl o276) (bl o358))))) (bn o1 (bn o0 (bn o53 (bn (o104 P) (bn (o198 P) (bl o1) bz) (bl o0)) (bn o0 (bl o252) (bl o1))) (bn (o77 P) (bn o1 (bl (o227 P)) (bl o313)) (bn o173 (bl o0) (bl o350)))) (bn o39 (bn o67 (bn o113 (bl o210) (bl o304)) (bn o0 (bl o1) (bl o0))) (bn o90 (bn o139 (bl o239) (bl o323)) (bn o0 (bl o281) (bl o365)))))))))
noncomputable def sts15 : List Stmt := [topS 36,topS 37,topS 38,topS 39,topS 40,topS 41,topS 42,topS 43,topS 44]
noncomputable def o382 (P : Params) : Obj := dob [de P s3 165 (vs s227 1004),de P s5 166 vz,de P s6 167 vz,de P s7 168 (Value.builtin "__main__.__loader__#opaque"),de P s8 169 vz,de P s9 170 (vr 6),de P s10 171 (vr 4),de P s11 173 (vs s1 172),de P s12 174 vz,de P s13 193 (vr 21),de P s14 222 (vr 38),de P s25 254 (vr 66),de P s30 277 (vr 85),de P s32 309 (vr 111),de P s36 341 (vr 137),de P s39 373 (vr 163),de P s42 407 (vr 189),de P s47 430 (vr 208),de P s48 436 (vr 211),de P s54 504 (vr 263),de P s70 535 (vr 284),de P s73 551 (vr 297),de P s75 578 (vr 316),de P s76 582 (vs s77 581),de P s78 584 (vs s79 583),de P s80 586 (vs s81 585),de P s82 588 (vs s83 587),de P s84 590 (vs s85 589),de P s86 594 (vs s87 593),de P s88 603 (vr 319),de P s89 605 (vs s90 604),de P s101 612 (vr 320),de P s102 614 (vi 999 613),de P s103 618 (vi 9223372036854775808 617),de P s104 677 (vr 321),de P s105 686 (vr 322),de P s106 692 (vr 327),de P s107 699 (vr 334),de P s108 706 (vr 341),de P s177 778 (vr 393),de P s189 933 (vr 498),de P s228 940 (vr 509),de P s229 970 (vr 510),de P s230 979 (vr 517),de P s231 986 (vr 524),de P s232 993 (vr 531),de P s233 1003 (vr 538),de P s260 1160 (vr 667)] 48
noncomputable def o383:Obj:=(Obj.mk vz none (Data.fields #[vi 1 0,vi 0 0,vr 20,vi 5 0,vi 0 0,vr 27,vi 9 0,vi 0 0,vr 48,vi 16 0,vi 0 0,vr 74,vi 20 0,vi 0 0,vr 93,vi 27 0,vi 0 0,vr 119,vi 34 0,vi 0 0,vr 145,vi 41 0,vi 0 0,vr 171,vi 49 0,vi 0 0,vr 197,vi 55 0,vi 0 0,vr 217,vi 111 0,vi 0 0,vr 273,vi 115 0,vi 0 0,vr 293,vi 117 0,vi 0 0,vr 305,vi 136 0,vi 0 0,vr 326,vi 140 0,vi 0 0,vr 333,vi 142 0,vi 0 0,vr 340,vi 144 0,vi 0 0,vr 347,vi 166 0,vi 0 0,vr 403,vi 299 0,vi 0 0,vr 508,vi 303 0,vi 0 0,vr 516,vi 313 0,vi 0 0,vr 523,vi 315 0,vi 0 0,vr 530,vi 324 0,vi 0 0,vr 537,vi 342 0,vi 0 0,vr 544]) #[])
noncomputable def o384 (P : Params) : Obj := dob [de P s16 1013 (vs s227 1004),de P s17 1015 (vs s260 1014),de P s18 1017 (vi 342 1016),de P s26 1025 (vr 552),de P s261 1032 (vr 559),de P s66 1040 (vr 566),de P s262 1048 (vr 573),de P s191 1056 (vr 580),de P s263 1063 (vr 587),de P s179 1071 (vr 594),de P s178 1079 (vr 601),de P s264 1088 (vr 608),de P s265 1095 (vr 615),de P s266 1103 (vr 622),de P s267 1111 (vr 629),de P s268 1119 (vr 636),de P s269 1127 (vr 643),de P s270 1134 (vr 650),de P s271 1141 (vr 657),de P s272 1148 (vr 664),de P s20 1153 (vr 665)] 21
noncomputable def o385:Obj:=(Obj.mk vz none (Data.fields #[vi 344 0,vi 4 0,vr 551,vi 350 0,vi 4 0,vr 558,vi 353 0,vi 4 0,vr 565,vi 356 0,vi 4 0,vr 572,vi 362 0,vi 4 0,vr 579,vi 365 0,vi 4 0,vr 586,vi 368 0,vi 4 0,vr 593,vi 371 0,vi 4 0,vr 600,vi 374 0,vi 4 0,vr 607,vi 378 0,vi 4 0,vr 614,vi 381 0,vi 4 0,vr 621,vi 387 0,vi 4 0,vr 628,vi 393 0,vi 4 0,vr 635,vi 396 0,vi 4 0,vr 642,vi 400 0,vi 4 0,vr 649,vi 405 0,vi 4 0,vr 656,vi 408 0,vi 4 0,vr 663]) #[])
noncomputable def o386:Obj:=cob [vs s260 1008,vs s260 1009,vs s1 1010,vi 342 0,vi 0 0,vi 0 0,vi 0 0,vi 0 0,vr 542,Value.bool false,vi 181 0,vr 543,vz,vz,vz,vz,vi 1011 0,vi 342 0,vs s1 1012]
noncomputable def o387:Obj:=(Obj.mk (Value.type "frame") none Data.plain #[Option.some (vr 544),Option.some (vr 3),Option.some (vr 541),none,Option.some (vs s227 1004),none,Option.some (vr 0)])
noncomputable def o388:Obj:=tob [vs s21 1021,vs s182 1022] 0
noncomputable def o389:Obj:=fob vz s26 s273 (clsS 45 0) (scopeOf (clsS 45 0)) 0 vz vz 0
noncomputable def o390:Obj:=cob [vs s26 1018,vs s273 1019,vs s1 1020,vi 344 0,vi 2 0,vi 0 0,vi 0 0,vi 3 0,vr 546,Value.bool true,vi 181 0,vr 547,vz,vr 548,vr 549,vr 550,vi 1023 0,vi 344 0,vs s1 1024]
noncomputable def o391:Obj:=fob (Value.type "function") s26 s273 (clsS 45 0) (scopeOf (clsS 45 0)) 3 (vs s227 1004) (vr 551) 0
noncomputable def o392:Obj:=tob [vs s21 1029] 0
noncomputable def o393:Obj:=fob vz s261 s274 (clsS 45 1) (scopeOf (clsS 45 14)) 0 vz vz 0
noncomputable def o394:Obj:=cob [vs s261 1026,vs s274 1027,vs s1 1028,vi 350 0,vi 1 0,vi 0 0,vi 0 0,vi 3 0,vr 553,Value.bool true,vi 181 0,vr 554,vz,vr 555,vr 556,vr 557,vi 1030 0,vi 350 0,vs s1 1031]
noncomputable def o395:Obj:=fob (Value.type "function") s261 s274 (clsS 45 1) (scopeOf (clsS 45 14)) 3 (vs s227 1004) (vr 558) 0
noncomputable def o396:Obj:=tob [vs s21 1036,vs s275 1037] 0
noncomputable def o397:Obj:=fob vz s66 s276 (clsS 45 2) (scopeOf (clsS 45 2)) 0 vz vz 0
noncomputable def o398:Obj:=cob [vs s66 1033,vs s276 1034,vs s1 1035,vi 353 0,vi 2 0,vi 0 0,vi 0 0,vi 3 0,vr 560,Value.bool true,vi 181 0,vr 561,vz,vr 562,vr 563,vr 564,vi 1038 0,vi 353 0,vs s1 1039]
noncomputable def o399:Obj:=fob (Value.type "function") s66 s276 (clsS 45 2) (scopeOf (clsS 45 2)) 3 (vs s227 1004) (vr 565) 0
noncomputable def o400:Obj:=tob [vs s21 1044,vs s256 1045] 0
noncomputable def o401:Obj:=fob vz s262 s277 (clsS 45 3) (scopeOf (clsS 45 3)) 0 vz vz 0
noncomputable def o402:Obj:=cob [vs s262 1041,vs s277 1042,vs s1 1043,vi 356 0,vi 1 0,vi 0 0,vi 0 0,vi 3 0,vr 567,Value.bool true,vi 181 0,vr 568,vz,vr 569,vr 570,vr 571,vi 1046 0,vi 356 0,vs s1 1047]
noncomputable def o403:Obj:=fob (Value.type "function") s262 s277 (clsS 45 3) (scopeOf (clsS 45 3)) 3 (vs s227 1004) (vr 572) 0
noncomputable def o404:Obj:=tob [vs s21 1052,vs s71 1053] 0
noncomputable def o405:Obj:=fob vz s191 s278 (clsS 45 4) (scopeOf (clsS 45 4)) 0 vz vz 0
noncomputable def o406:Obj:=cob [vs s191 1049,vs s278 1050,vs s1 1051,vi 362 0,vi 2 0,vi 0 0,vi 0 0,vi 3 0,vr 574,Value.bool true,vi 181 0,vr 575,vz,vr 576,vr 577,vr 578,vi 1054 0,vi 362 0,vs s1 1055]
noncomputable def o407:Obj:=fob (Value.type "function") s191 s278 (clsS 45 4) (scopeOf (clsS 45 4)) 3 (vs s227 1004) (vr 579) 0
noncomputable def o408:Obj:=tob [vs s21 1060] 0
noncomputable def o409:Obj:=fob vz s263 s279 (clsS 45 5) (scopeOf (clsS 45 14)) 0 vz vz 0
noncomputable def o410:Obj:=cob [vs s263 1057,vs s279 1058,vs s1 1059,vi 365 0,vi 1 0,vi 0 0,vi 0 0,vi 3 0,vr 581,Value.bool true,vi 181 0,vr 582,vz,vr 583,vr 584,vr 585,vi 1061 0,vi 365 0,vs s1 1062]
noncomputable def o411:Obj:=fob (Value.type "function") s263 s279 (clsS 45 5) (scopeOf (clsS 45 14)) 3 (vs s227 1004) (vr 586) 0
noncomputable def o412:Obj:=tob [vs s21 1067,vs s182 1068] 0
noncomputable def o413:Obj:=fob vz s179 s280 (clsS 45 6) (scopeOf (clsS 45 13)) 0 vz vz 0
noncomputable def o414:Obj:=cob [vs s179 1064,vs s280 1065,vs s1 1066,vi 368 0,vi 2 0,vi 0 0,vi 0 0,vi 3 0,vr 588,Value.bool true,vi 181 0,vr 589,vz,vr 590,vr 591,vr 592,vi 1069 0,vi 368 0,vs s1 1070]
noncomputable def o415:Obj:=fob (Value.type "function") s179 s280 (clsS 45 6) (scopeOf (clsS 45 13)) 3 (vs s227 1004) (vr 593) 0
noncomputable def o416:Obj:=tob [vs s21 1075,vs s182 1076] 0
noncomputable def o417:Obj:=fob vz s178 s281 (clsS 45 7) (scopeOf (clsS 45 13)) 0 vz vz 0
noncomputable def o418:Obj:=cob [vs s178 1072,vs s281 1073,vs s1 1074,vi 371 0,vi 2 0,vi 0 0,vi 0 0,vi 3 0,vr 595,Value.bool true,vi 181 0,vr 596,vz,vr 597,vr 598,vr 599,vi 1077 0,vi 371 0,vs s1 1078]
noncomputable def o419:Obj:=fob (Value.type "function") s178 s281 (clsS 45 7) (scopeOf (clsS 45 13)) 3 (vs s227 1004) (vr 600) 0
noncomputable def o420:Obj:=tob [vs s21 1083,vs s282 1084,vs s256 1085] 0
noncomputable def o421:Obj:=fob vz s264 s283 (clsS 45 8) (scopeOf (clsS 45 8)) 0 vz vz 0
noncomputable def o422:Obj:=cob [vs s264 1080,vs s283 1081,vs s1 1082,vi 374 0,vi 2 0,vi 0 0,vi 0 0,vi 3 0,vr 602,Value.bool true,vi 181 0,vr 603,vz,vr 604,vr 605,vr 606,vi 1086 0,vi 374 0,vs s1 1087]
noncomputable def o423:Obj:=fob (Value.type "function") s264 s283 (clsS 45 8) (scopeOf (clsS 45 8)) 3 (vs s227 1004) (vr 607) 0
noncomputable def o424:Obj:=tob [vs s21 1092] 0
noncomputable def o425:Obj:=fob vz s265 s284 (clsS 45 9) (scopeOf (clsS 45 16)) 0 vz vz 0
noncomputable def o426:Obj:=cob [vs s265 1089,vs s284 1090,vs s1 1091,vi 378 0,vi 1 0,vi 0 0,vi 0 0,vi 3 0,vr 609,Value.bool true,vi 181 0,vr 610,vz,vr 611,vr 612,vr 613,vi 1093 0,vi 378 0,vs s1 1094]
noncomputable def o427:Obj:=fob (Value.type "function") s265 s284 (clsS 45 9) (scopeOf (clsS 45 16)) 3 (vs s227 1004) (vr 614) 0
noncomputable def o428:Obj:=tob [vs s21 1099,vs s182 1100] 0
noncomputable def o429:Obj:=fob vz s266 s285 (clsS 45 10) (scopeOf (clsS 45 13)) 0 vz vz 0
noncomputable def o430:Obj:=cob [vs s266 1096,vs s285 1097,vs s1 1098,vi 381 0,vi 2 0,vi 0 0,vi 0 0,vi 3 0,vr 616,Value.bool true,vi 181 0,vr 617,vz,vr 618,vr 619,vr 620,vi 1101 0,vi 381 0,vs s1 1102]
noncomputable def o431:Obj:=fob (Value.type "function") s266 s285 (clsS 45 10) (scopeOf (clsS 45 13)) 3 (vs s227 1004) (vr 621) 0
noncomputable def o432:Obj:=tob [vs s21 1107,vs s182 1108] 0
noncomputable def o433:Obj:=fob vz s267 s286 (clsS 45 11) (scopeOf (clsS 45 13)) 0 vz vz 0
noncomputable def o434:Obj:=cob [vs s267 1104,vs s286 1105,vs s1 1106,vi 387 0,vi 2 0,vi 0 0,vi 0 0,vi 3 0,vr 623,Value.bool true,vi 181 0,vr 624,vz,vr 625,vr 626,vr 627,vi 1109 0,vi 387 0,vs s1 1110]
noncomputable def o435:Obj:=fob (Value.type "function") s267 s286 (clsS 45 11) (scopeOf (clsS 45 13)) 3 (vs s227 1004) (vr 628) 0
noncomputable def o436:Obj:=tob [vs s21 1115,vs s182 1116] 0
noncomputable def o437:Obj:=fob vz s268 s287 (clsS 45 12) (scopeOf (clsS 45 12)) 0 vz vz 0
noncomputable def o438:Obj:=cob [vs s268 1112,vs s287 1113,vs s1 1114,vi 393 0,vi 2 0,vi 0 0,vi 0 0,vi 3 0,vr 630,Value.bool true,vi 181 0,vr 631,vz,vr 632,vr 633,vr 634,vi 1117 0,vi 393 0,vs s1 1118]
noncomputable def o439:Obj:=fob (Value.type "function") s268 s287 (clsS 45 12) (scopeOf (clsS 45 12)) 3 (vs s227 1004) (vr 635) 0
noncomputable def o440:Obj:=tob [vs s21 1123,vs s182 1124] 0
noncomputable def o441:Obj:=fob vz s269 s288 (clsS 45 13) (scopeOf (clsS 45 13)) 0 vz vz 0
noncomputable def o442:Obj:=cob [vs s269 1120,vs s288 1121,vs s1 1122,vi 396 0,vi 2 0,vi 0 0,vi 0 0,vi 3 0,vr 637,Value.bool true,vi 181 0,vr 638,vz,vr 639,vr 640,vr 641,vi 1125 0,vi 396 0,vs s1 1126]
noncomputable def o443:Obj:=fob (Value.type "function") s269 s288 (clsS 45 13) (scopeOf (clsS 45 13)) 3 (vs s227 1004) (vr 642) 0
noncomputable def o444:Obj:=tob [vs s21 1131] 0
noncomputable def o445:Obj:=fob vz s270 s289 (clsS 45 14) (scopeOf (clsS 45 14)) 0 vz vz 0
noncomputable def o446:Obj:=cob [vs s270 1128,vs s289 1129,vs s1 1130,vi 400 0,vi 1 0,vi 0 0,vi 0 0,vi 3 0,vr 644,Value.bool true,vi 181 0,vr 645,vz,vr 646,vr 647,vr 648,vi 1132 0,vi 400 0,vs s1 1133]
noncomputable def o447:Obj:=fob (Value.type "function") s270 s289 (clsS 45 14) (scopeOf (clsS 45 14)) 3 (vs s227 1004) (vr 649) 0
noncomputable def o448:Obj:=tob [vs s21 1138] 0
noncomputable def o449:Obj:=fob vz s271 s290 (clsS 45 15) (scopeOf (clsS 45 16)) 0 vz vz 0
noncomputable def o450:Obj:=cob [vs s271 1135,vs s290 1136,vs s1 1137,vi 405 0,vi 1 0,vi 0 0,vi 0 0,vi 3 0,vr 651,Value.bool true,vi 181 0,vr 652,vz,vr 653,vr 654,vr 655,vi 1139 0,vi 405 0,vs s1 1140]
noncomputable def o451:Obj:=fob (Value.type "function") s271 s290 (clsS 45 15) (scopeOf (clsS 45 16)) 3 (vs s227 1004) (vr 656) 0
noncomputable def o452:Obj:=tob [vs s21 1145] 0
noncomputable def o453:Obj:=fob vz s272 s291 (clsS 45 16) (scopeOf (clsS 45 16)) 0 vz vz 0
noncomputable def o454:Obj:=cob [vs s272 1142,vs s291 1143,vs s1 1144,vi 408 0,vi 1 0,vi 0 0,vi 0 0,vi 3 0,vr 658,Value.bool true,vi 181 0,vr 659,vz,vr 660,vr 661,vr 662,vi 1146 0,vi 408 0,vs s1 1147]
noncomputable def o455:Obj:=fob (Value.type "function") s272 s291 (clsS 45 16) (scopeOf (clsS 45 16)) 3 (vs s227 1004) (vr 663) 0
noncomputable def o456:Obj:=tob [vs s292 1149,vs s293 1150,vs s182 1151,vs s294 1152] 0
noncomputable def o457 (P : Params) : Obj := dob [de P s16 1013 (vs s227 1004),de P s18 1017 (vi 342 1016),de P s26 1025 (vr 552),de P s261 1032 (vr 559),de P s66 1040 (vr 566),de P s262 1048 (vr 573),de P s191 1056 (vr 580),de P s263 1063 (vr 587),de P s179 1071 (vr 594),de P s178 1079 (vr 601),de P s264 1088 (vr 608),de P s265 1095 (vr 615),de P s266 1103 (vr 622),de P s267 1111 (vr 629),de P s268 1119 (vr 636),de P s269 1127 (vr 643),de P s270 1134 (vr 650),de P s271 1141 (vr 657),de P s272 1148 (vr 664),de P s20 1153 (vr 665),de P s23 1155 (vr 668),de P s24 1157 (vr 669),de P s5 1158 vz] 4
noncomputable def o458:Obj:=(Obj.mk (Value.type "type") none (Data.cls (ClassData.mk s260 [Value.type "object"] [vr 667,Value.type "object"] 666 s260 true [] [] false none false)) #[none,none,Option.some (vs s260 1006),Option.some (vs s260 1014),Option.some (Value.builtin "object.__new__"),Option.some (Value.bool true)])
noncomputable def o459:Obj:=(Obj.mk (Value.type "getset_descriptor") none (Data.fields #[vs s23 1154,vr 667,Value.builtin "function.__dict__",Value.builtin "function.__dict__#set"]) #[])
noncomputable def o460:Obj:=(Obj.mk (Value.type "getset_descriptor") none (Data.fields #[vs s24 1156,vr 667,Value.builtin "ExceptionGroup.__weakref__",vz]) #[])
noncomputable def o461:Obj:=(Obj.mk (Value.type "super") none (Data.fields #[vr 667,vr 667,vr 667]) #[])
noncomputable def o462:Obj:=(Obj.mk (Value.type "builtin_function_or_method") none (Data.fields #[Value.builtin "object.__init_subclass__",vr 667]) #[])
noncomputable def t16 (P : Params) : BT := (bn (boot_o_0 P) (bn (boot_o_1 P) (bn (o382 P) (bn (boot_o_7 P) (bn o0 (bn o15 (bn o40 (bn o91 (bn o1 (bl o0) bz) (bn o282 (bl o440) bz)) (bn o140 (bn o240 (bl o1) bz) (bl o0))) (bn o0 (bn o114 (bn o211 (bl o385) bz) (bn o0 (bl o462) bz)) (bn o164 (bn o263 (bl o422) bz) (bl o341)))) (bn o30 (bn o0 (bn o0 (bn o0 (bl o374) bz) (bn o10 (bl o449) bz)) (bn (o152 P) (bn o0 (bl o0) bz) (bl o332))) (bn o78 (bn o128 (bn o0 (bl o395) bz) (bl o314)) (bn o174 (bn o272 (bl o0) bz) (bl o351))))) (bn o10 (bn o21 (bn (o49 P) (bn o96 (bn o189 (bl o1) bz) (bn o287 (bl o0) bz)) (bn o0 (bn o248 (bl o408) bz) (bl o1))) (bn o1 (bn o10 (bn o0 (bl o390) bz) (bl o309)) (bn o169 (bn o0 (bl o427) bz) (bl o346)))) (bn o35 (bn o60 (bn o109 (bn o203 (bl o0) bz) (bn o300 (bl o454) bz)) (bn o0 (bn o10 (bl o417) bz) (bl o0))) (bn o86 (bn o0 (bn o232 (bl o0) bz) (bl o319)) (bn o0 (bn o277 (bl o1) bz) (bl o0)))))) (bn o0 (bn o7 (bn o18 (bn o44 (bn o0 (bn o185 (bl o367) bz) (bn o0 (bl o443) bz)) (bn o0 (bn o0 (bl o406) bz) (bl o325))) (bn o69 (bn o118 (bn o0 (bl o1) bz) (bl o0)) (bn o1 (bn o266 (bl o424) bz) (bl o1)))) (bn o1 (bn o0 (bn o0 (bn o0 (bl o377) bz) (bn o298 (bl o1) bz)) (bn o156 (bn o254 (bl o0) bz) (bl o335))) (bn o10 (bn o131 (bn o0 (bl o0) bz) (bl o316)) (bn o0 (bn o1 (bl o433) bz) (bl o355))))) (bn o13 (bn o28 (bn o52 (bn o100 (bn o193 (bl o372) bz) (bn o291 (bl o0) bz)) (bn o149 (bn o0 (bl o411) bz) (bl o330))) (bn o74 (bn o126 (bn o222 (bl o392) bz) (bl o1)) (bn o171 (bn o0 (bl o0) bz) (bl o348)))) (bn o37 (bn o0 (bn o1 (bn (o207 P) (bl o0) bz) (bn o303 (bl o458) bz)) (bn o0 (bn o261 (bl o1) bz) (bl o0))) (bn o88 (bn o136 (bn (o236 P) (bl o401) bz) (bl o0)) (bn o180 (bn o279 (bl o438) bz) (bl o362))))))) (bn (boot_o_5 P) (bn (boot_o_9 P) (bn o6 (bn o16 (bn (o42 P) (bn o1 (bn o0 (bl o366) bz) (bn o1 (bl o441) bz)) (bn o10 (bn o244 (bl o0) bz) (bl o324))) (bn o68 (bn o116 (bn o10 (bl o387) bz) (bl o306)) (bn o166 (bn o264 (bl o0) bz) (bl o343)))) (bn o32 (bn o55 (bn o106 (bn o200 (bl o375) bz) (bn o0 (bl o451) bz)) (bn o154 (bn o253 (bl o414) bz) (bl o333))) (bn o80 (bn o129 (bn o229 (bl o1) bz) (bl o0)) (bn o1 (bn o274 (bl o432) bz) (bl (o353 P)))))) (bn o0 (bn o23 (bn o50 (bn o98 (bn o191 (bl o0) bz) (bn o289 (bl o446) bz)) (bn o148 (bn o1 (bl o409) bz) (bl o0))) (bn o0 (bn o0 (bn o225 (bl o0) bz) (bl o311)) (bn o0 (bn o269 (bl o1) bz) (bl o0)))) (bn o0 (bn o10 (bn o111 (bn o205 (bl o380) bz) (bn o301 (bl o456) bz)) (bn o161 (bn o0 (bl o419) bz) (bl o338))) (bn o0 (bn o134 (bn o234 (bl o400) bz) (bl o1)) (bn o179 (bn o0 (bl o0) bz) (bl o361)))))) (bn o2 (bn o9 (bn (o19 P) (bn o28 (bn o94 (bn o187 (bl o369) bz) (bn o285 (bl o1) bz)) (bn o146 (bn o246 (bl o0) bz) (bl o327))) (bn o71 (bn o120 (bn o217 (bl o0) bz) (bl o308)) (bn o0 (bn o1 (bl o425) bz) (bl o0)))) (bn o0 (bn o58 (bn o108 (bn o202 (bl o1) bz) (bn o0 (bl o0) bz)) (bn o10 (bn o256 (bl o416) bz) (bl o1))) (bn o0 (bn o1 (bn o231 (bl o398) bz) (bl o317)) (bn o177 (bn o0 (bl o435) bz) (bl o357))))) (bn o0 (bn (o29 P) (bn o1 (bn o10 (bn o10 (bl o0) bz) (bn o293 (bl o448) bz)) (bn o151 (bn o251 (bl o1) bz) (bl o0))) (bn o76 (bn o0 (bn o10 (bl o393) bz) (bl o0)) (bn o172 (bn o271 (bl o430) bz) (bl o349)))) (bn o38 (bn o66 (bn o0 (bn o209 (bl (o384 P)) bz) (bn o1 (bl o460) bz)) (bn o163 (bn o0 (bl o0) bz) (bl o340))) (bn o89 (bn o138 (bn o238 (bl o403) bz) (bl o322)) (bn o182 (bn o280 (bl o0) bz) (bl o364)))))))) (bn (o194 P) (bn (boot_o_4 P) (bn (boot_o_8 P) (bn o1 (bn o0 (bn o41 (bn o0 (bn o183 (bl o1) bz) (bn o0 (bl o0) bz)) (bn o28 (bn (o243 P) (bl o404) bz) (bl o1))) (bn o1 (bn o115 (bn o215 (bl o386) bz) (bl o305)) (bn o165 (bn o0 (bl o423) bz) (bl o342)))) (bn o31 (bn o54 (bn o105 (bn o199 (bl o0) bz) (bn (o296 P) (bl o450) bz)) (bn o153 (bn o1 (bl o413) bz) (bl o0))) (bn o79 (bn o0 (bn o228 (bl o0) bz) (bl o315)) (bn o0 (bn o273 (bl o1) bz) (bl o352))))) (bn (o11 P) (bn o22 (bn o0 (bn (o97 P) (bn o190 (bl o370) bz) (bn (o288 P) (bl o445) bz)) (bn o1 (bn o0 (bl o0) bz) (bl o328))) (bn o72 (bn (o124 P) (bn (o219 P) (bl o391) bz) (bl o310)) (bn o170 (bn o268 (bl o0) bz) (bl o347)))) (bn o36 (bn o28 (bn o110 (bn o204 (bl o379) bz) (bn o0 (bl o455) bz)) (bn o160 (bn (o259 P) (bl o418) bz) (bl o337))) (bn o87 (bn o133 (bn o233 (bl o1) bz) (bl o0)) (bn o1 (bn o278 (bl o436) bz) (bl o1)))))) (bn o383 (bn o8 (bn o0 (bn o45 (bn o93 (bn o186 (bl o368) bz) (bn o284 (bl o0) bz)) (bn o145 (bn o1 (bl o407) bz) (bl o326))) (bn o70 (bn o119 (bn o1 (bl o388) bz) (bl o1)) (bn o167 (bn o0 (bl o0) bz) (bl o344)))) (bn o33 (bn (o57 P) (bn o1 (bn o1 (bl o0) bz) (bn o299 (bl o452) bz)) (bn o0 (bn o255 (bl o1) bz) (bl o0))) (bn (o84 P) (bn o0 (bn o1 (bl o397) bz) (bl o0)) (bn o176 (bn o275 (bl o434) bz) (bl o356))))) (bn o14 (bn o10 (bn o0 (bn o28 (bn o197 (bl o373) bz) (bn o292 (bl o1) bz)) (bn o150 (bn o250 (bl o0) bz) (bl o331))) (bn o75 (bn o127 (bn o226 (bl o0) bz) (bl o312)) (bn o0 (bn o1 (bl o429) bz) (bl o0)))) (bn o0 (bn o65 (bn o112 (bn o214 (bl o10) bz) (bn o0 (bl o459) bz)) (bn o1 (bn o262 (bl o420) bz) (bl o1))) (bn o0 (bn (o137 P) (bn o237 (bl o402) bz) (bl o321)) (bn o181 (bn o0 (bl o439) bz) (bl o363))))))) (bn (boot_o_6 P) (bn (boot_o_10 P) (bn o0 (bn o17 (bn o43 (bn o92 (bn o184 (bl o0) bz) (bn o283 (bl o442) bz)) (bn (o144 P) (bn o245 (bl o405) bz) (bl o0))) (bn o0 (bn (o117 P) (bn (o216 P) (bl o0) bz) (bl o307)) (bn o0 (bn o265 (bl o1) bz) (bl o0)))) (bn o0 (bn o56 (bn o107 (bn o201 (bl o376) bz) (bn o297 (bl o0) bz)) (bn o155 (bn o0 (bl o415) bz) (bl o334))) (bn o28 (bn o130 (bn o230 (bl o396) bz) (bl o1)) (bn o175 (bn o0 (bl o0) bz) (bl o354))))) (bn o12 (bn o24 (bn o51 (bn o99 (bn o192 (bl o371) bz) (bn o290 (bl o447) bz)) (bn o0 (bn o249 (bl o410) bz) (bl o329))) (bn o73 (bn o125 (bn o221 (bl o1) bz) (bl o0)) (bn o1 (bn o270 (bl o428) bz) (bl o1)))) (bn o1 (bn (o64 P) (bn o0 (bn o206 (bl o381) bz) (bn o302 (bl (o457 P)) bz)) (bn o162 (bn o260 (bl o0) bz) (bl o339))) (bn o1 (bn o135 (bn o235 (bl o0) bz) (bl o320)) (bn o0 (bn o1 (bl o437) bz) (bl o0)))))) (bn o3 (bn o0 (bn o143 (bn o10 (bn o95 (bn (o188 P) (bl o0) bz) (bn o286 (bl o444) bz)) (bn o147 (bn o247 (bl o1) bz) (bl o0))) (bn o0 (bn o28 (bn o218 (bl o389) bz) (bl o0)) (bn o168 (bn o267 (bl o426) bz) (bl o345)))) (bn o34 (bn o59 (bn o0 (bn o0 (bl o378) bz) (bn o1 (bl o453) bz)) (bn (o159 P) (bn o0 (bl o0) bz) (bl o336))) (bn o85 (bn o132 (bn o0 (bl o399) bz) (bl o318)) (bn o178 (bn o276 (bl o0) bz) (bl o358))))) (bn o1 (bn o0 (bn o53 (bn (o104 P) (bn (o198 P) (bl o1) bz) (bn o0 (bl o0) bz)) (bn o0 (bn o252 (bl o412) bz) (bl o1))) (bn (o77 P) (bn o1 (bn (o227 P) (bl o394) bz) (bl o313)) (bn o173 (bn o0 (bl o431) bz) (bl o350)))) (bn o39 (bn o67 (bn o113 (bn o210 (bl o0) bz) (bn o304 (bl o461) bz)) (bn o0 (bn o1 (bl o421) bz) (bl o0))) (bn o90 (bn o139 (bn o239 (bl o0) bz) (bl o323)) (bn o0 (bn o281 (bl o1) bz) (bl o365)))))))))
noncomputable def sts16 : List Stmt := [topS 45]
noncomputable def o463 (P : Params) : Obj := dob [de P s3 165 (vs s295 1161),de P s5 166 vz,de P s6 167 vz,de P s7 168 (Value.builtin "__main__.__loader__#opaque"),de P s8 169 vz,de P s9 170 (vr 6),de P s10 171 (vr 4),de P s11 173 (vs s1 172),de P s12 174 vz,de P s13 193 (vr 21),de P s14 222 (vr 38),de P s25 254 (vr 66),de P s30 277 (vr 85),de P s32 309 (vr 111),de P s36 341 (vr 137),de P s39 373 (vr 163),de P s42 407 (vr 189),de P s47 430 (vr 208),de P s48 436 (vr 211),de P s54 504 (vr 263),de P s70 535 (vr 284),de P s73 551 (vr 297),de P s75 578 (vr 316),de P s76 582 (vs s77 581),de P s78 584 (vs s79 583),de P s80 586 (vs s81 585),de P s82 588 (vs s83 587),de P s84 590 (vs s85 589),de P s86 594 (vs s87 593),de P s88 603 (vr 319),de P s89 605 (vs s90 604),de P s101 612 (vr 320),de P s102 614 (vi 999 613),de P s103 618 (vi 9223372036854775808 617),de P s104 677 (vr 321),de P s105 686 (vr 322),de P s106 692 (vr 327),de P s107 699 (vr 334),de P s108 706 (vr 341),de P s177 778 (vr 393),de P s189 933 (vr 498),de P s228 940 (vr 509),de P s229 970 (vr 510),de P s230 979 (vr 517),de P s231 986 (vr 524),de P s232 993 (vr 531),de P s233 1003 (vr 538),de P s260 1160 (vr 667),de P s296 1173 (vr 678),de P s297 1182 (vr 685),de P s298 1190 (vr 692),de P s299 1198 (vr 699),de P s300 1207 (vr 706),de P s301 1216 (vr 713),de P s302 1231 (vr 720),de P s303 1240 (vr 727),de P s304 1247 (vr 734),de P s305 1253 (vr 739)] 58
noncomputable def o464:Obj:=(Obj.mk vz none (Data.fields #[vi 1 0,vi 0 0,vr 20,vi 5 0,vi 0 0,vr 27,vi 9 0,vi 0 0,vr 48,vi 16 0,vi 0 0,vr 74,vi 20 0,vi 0 0,vr 93,vi 27 0,vi 0 0,vr 119,vi 34 0,vi 0 0,vr 145,vi 41 0,vi 0 0,vr 171,vi 49 0,vi 0 0,vr 197,vi 55 0,vi 0 0,vr 217,vi 111 0,vi 0 0,vr 273,vi 115 0,vi 0 0,vr 293,vi 117 0,vi 0 0,vr 305,vi 136 0,vi 0 0,vr 326,vi 140 0,vi 0 0,vr 333,vi 142 0,vi 0 0,vr 340,vi 144 0,vi 0 0,vr 347,vi 166 0,vi 0 0,vr 403,vi 299 0,vi 0 0,vr 508,vi 303 0,vi 0 0,vr 516,vi 313 0,vi 0 0,vr 523,vi 315 0,vi 0 0,vr 530,vi 324 0,vi 0 0,vr 537,vi 342 0,vi 0 0,vr 544,vi 411 0,vi 0 0,vr 677,vi 416 0,vi 0 0,vr 684,vi 423 0,vi 0 0,vr 691,vi 425 0,vi 0 0,vr 698,vi 428 0,vi 0 0,vr 705,vi 438 0,vi 0 0,vr 712,vi 442 0,vi 0 0,vr 719,vi 464 0,vi 0 0,vr 726,vi 471 0,vi 0 0,vr 733,vi 473 0,vi 0 0,vr 738]) #[])
noncomputable def o465:Obj:=tob [vs s306 1166,vs s15 1167,vs s307 1168,vs s308 1169,vs s309 1170] 0
noncomputable def o466:Obj:=fob vz s296 s296 (topS 47) (scopeOf (topS 47)) 0 vz vz 0
noncomputable def o467:Obj:=cob [vs s296 1163,vs s296 1164,vs s1 1165,vi 411 0,vi 2 0,vi 0 0,vi 0 0,vi 3 0,vr 672,Value.bool true,vi 181 0,vr 673,vz,vr 674,vr 675,vr 676,vi 1171 0,vi 411 0,vs s1 1172]
noncomputable def o468:Obj:=fob (Value.type "function") s296 s296 (topS 47) (scopeOf (topS 47)) 3 (vs s295 1161) (vr 677) 0
noncomputable def o469:Obj:=tob [vs s310 1177,vs s311 1178,vs s312 1179] 0
noncomputable def o470:Obj:=fob vz s297 s297 (topS 48) (scopeOf (topS 48)) 0 vz vz 0
noncomputable def o471:Obj:=cob [vs s297 1174,vs s297 1175,vs s1 1176,vi 416 0,vi 2 0,vi 0 0,vi 0 0,vi 3 0,vr 679,Value.bool true,vi 181 0,vr 680,vz,vr 681,vr 682,vr 683,vi 1180 0,vi 416 0,vs s1 1181]
noncomputable def o472:Obj:=fob (Value.type "function") s297 s297 (topS 48) (scopeOf (topS 48)) 3 (vs s295 1161) (vr 684) 0
noncomputable def o473:Obj:=tob [vs s310 1186,vs s313 1187] 0
noncomputable def o474:Obj:=fob vz s298 s298 (topS 49) (scopeOf (topS 49)) 0 vz vz 0
noncomputable def o475:Obj:=cob [vs s298 1183,vs s298 1184,vs s1 1185,vi 423 0,vi 2 0,vi 0 0,vi 0 0,vi 3 0,vr 686,Value.bool true,vi 181 0,vr 687,vz,vr 688,vr 689,vr 690,vi 1188 0,vi 423 0,vs s1 1189]
noncomputable def o476:Obj:=fob (Value.type "function") s298 s298 (topS 49) (scopeOf (topS 49)) 3 (vs s295 1161) (vr 691) 0
noncomputable def o477:Obj:=tob [vs s310 1194,vs s314 1195] 0
noncomputable def o478:Obj:=fob vz s299 s299 (topS 50) (scopeOf (topS 50)) 0 vz vz 0
noncomputable def o479:Obj:=cob [vs s299 1191,vs s299 1192,vs s1 1193,vi 425 0,vi 1 0,vi 0 0,vi 0 0,vi 3 0,vr 693,Value.bool true,vi 181 0,vr 694,vz,vr 695,vr 696,vr 697,vi 1196 0,vi 425 0,vs s1 1197]
noncomputable def o480:Obj:=fob (Value.type "function") s299 s299 (topS 50) (scopeOf (topS 50)) 3 (vs s295 1161) (vr 698) 0
noncomputable def o481:Obj:=tob [vs s310 1202,vs s315 1203,vs s198 1204] 0
noncomputable def o482:Obj:=fob vz s300 s300 (topS 51) (scopeOf (topS 51)) 0 vz vz 0
noncomputable def o483:Obj:=cob [vs s300 1199,vs s300 1200,vs s1 1201,vi 428 0,vi 1 0,vi 0 0,vi 0 0,vi 3 0,vr 700,Value.bool true,vi 181 0,vr 701,vz,vr 702,vr 703,vr 704,vi 1205 0,vi 428 0,vs s1 1206]
noncomputable def o484:Obj:=fob (Value.type "function") s300 s300 (topS 51) (scopeOf (topS 51)) 3 (vs s295 1161) (vr 705) 0
noncomputable def o485:Obj:=tob [vs s310 1211,vs s27 1212,vs s294 1213] 0
noncomputable def o486:Obj:=fob vz s301 s301 (topS 52) (scopeOf (topS 52)) 0 vz vz 0
noncomputable def o487:Obj:=cob [vs s301 1208,vs s301 1209,vs s1 1210,vi 438 0,vi 1 0,vi 0 0,vi 0 0,vi 3 0,vr 707,Value.bool true,vi 181 0,vr 708,vz,vr 709,vr 710,vr 711,vi 1214 0,vi 438 0,vs s1 1215]
noncomputable def o488:Obj:=fob (Value.type "function") s301 s301 (topS 52) (scopeOf (topS 52)) 3 (vs s295 1161) (vr 712) 0
noncomputable def o489:Obj:=tob [vs s310 1220,vs s315 1221,vs s294 1222,vs s19 1223,vs s210 1224,vs s33 1225,vs s182 1226,vs s316 1227,vs s317 1228] 0
noncomputable def o490:Obj:=fob vz s302 s302 (topS 53) (scopeOf (topS 53)) 0 vz vz 0
noncomputable def o491:Obj:=cob [vs s302 1217,vs s302 1218,vs s1 1219,vi 442 0,vi 1 0,vi 0 0,vi 0 0,vi 3 0,vr 714,Value.bool true,vi 181 0,vr 715,vz,vr 716,vr 717,vr 718,vi 1229 0,vi 442 0,vs s1 1230]
noncomputable def o492:Obj:=fob (Value.type "function") s302 s302 (topS 53) (scopeOf (topS 53)) 3 (vs s295 1161) (vr 719) 0
noncomputable def o493:Obj:=tob [vs s182 1235,vs s60 1236,vs s225 1237] 0
noncomputable def o494:Obj:=fob vz s303 s303 (topS 54) (scopeOf (topS 54)) 0 vz vz 0
noncomputable def o495:Obj:=cob [vs s303 1232,vs s303 1233,vs s1 1234,vi 464 0,vi 1 0,vi 0 0,vi 0 0,vi 3 0,vr 721,Value.bool true,vi 181 0,vr 722,vz,vr 723,vr 724,vr 725,vi 1238 0,vi 464 0,vs s1 1239]
noncomputable def o496:Obj:=fob (Value.type "function") s303 s303 (topS 54) (scopeOf (topS 54)) 3 (vs s295 1161) (vr 726) 0
noncomputable def o497:Obj:=tob [vs s182 1244] 0
noncomputable def o498:Obj:=fob vz s304 s304 (topS 55) (scopeOf (topS 55)) 0 vz vz 0
noncomputable def o499:Obj:=cob [vs s304 1241,vs s304 1242,vs s1 1243,vi 471 0,vi 1 0,vi 0 0,vi 0 0,vi 3 0,vr 728,Value.bool true,vi 181 0,vr 729,vz,vr 730,vr 731,vr 732,vi 1245 0,vi 471 0,vs s1 1246]
noncomputable def o500:Obj:=fob (Value.type "function") s304 s304 (topS 55) (scopeOf (topS 55)) 3 (vs s295 1161) (vr 733) 0
noncomputable def o501:Obj:=fob vz s305 s305 (topS 56) (scopeOf (topS 56)) 0 vz vz 0
noncomputable def o502:Obj:=cob [vs s305 1248,vs s305 1249,vs s1 1250,vi 473 0,vi 1 0,vi 0 0,vi 0 0,vi 3 0,vr 735,Value.bool true,vi 181 0,vr 736,vz,vz,vz,vr 737,vi 1251 0,vi 473 0,vs s1 1252]
noncomputable def o503:Obj:=fob (Value.type "function") s305 s305 (topS 56) (scopeOf (topS 56)) 3 (vs s295 1161) (vr 738) 0
noncomputable def t17 (P : Params) : BT := (bn (boot_o_0 P) (bn (boot_o_1 P) (bn (o463 P) (bn (boot_o_7 P) (bn o0 (bn o15 (bn o40 (bn o91 (bn o1 (bl o0) bz) (bn o282 (bl o440) bz)) (bn o140 (bn o240 (bl o1) bz) (bn o0 (bl o0) bz))) (bn o0 (bn o114 (bn o211 (bl o385) bz) (bn o0 (bl o462) bz)) (bn o164 (bn o263 (bl o422) bz) (bn o341 (bl o0) bz)))) (bn o30 (bn o0 (bn o0 (bn o0 (bl o374) bz) (bn o10 (bl o449) bz)) (bn (o152 P) (bn o0 (bl o0) bz) (bn o332 (bl o491) bz))) (bn o78 (bn o128 (bn o0 (bl o395) bz) (bn o314 (bl o1) bz)) (bn o174 (bn o272 (bl o0) bz) (bl o351))))) (bn o10 (bn o21 (bn (o49 P) (bn o96 (bn o189 (bl o1) bz) (bn o287 (bl o0) bz)) (bn o0 (bn o248 (bl o408) bz) (bn o1 (bl o486) bz))) (bn o1 (bn o10 (bn o0 (bl o390) bz) (bn o309 (bl o0) bz)) (bn o169 (bn o0 (bl o427) bz) (bl o346)))) (bn o35 (bn o60 (bn o109 (bn o203 (bl o0) bz) (bn o300 (bl o454) bz)) (bn o0 (bn o10 (bl o417) bz) (bn o0 (bl o496) bz))) (bn o86 (bn o0 (bn o232 (bl o0) bz) (bn o319 (bl o477) bz)) (bn o0 (bn o277 (bl o1) bz) (bl o0)))))) (bn o0 (bn o7 (bn o18 (bn o44 (bn o0 (bn o185 (bl o367) bz) (bn o0 (bl o443) bz)) (bn o0 (bn o0 (bl o406) bz) (bn o325 (bl o0) bz))) (bn o69 (bn o118 (bn o0 (bl o1) bz) (bn o0 (bl o0) bz)) (bn o1 (bn o266 (bl o424) bz) (bn o1 (bl o503) bz)))) (bn o1 (bn o0 (bn o0 (bn o0 (bl o377) bz) (bn o298 (bl o1) bz)) (bn o156 (bn o254 (bl o0) bz) (bn o335 (bl o493) bz))) (bn o10 (bn o131 (bn o0 (bl o0) bz) (bn o316 (bl o475) bz)) (bn o0 (bn o1 (bl o433) bz) (bl o355))))) (bn o13 (bn o28 (bn o52 (bn o100 (bn o193 (bl o372) bz) (bn o291 (bl o0) bz)) (bn o149 (bn o0 (bl o411) bz) (bn o330 (bl o1) bz))) (bn o74 (bn o126 (bn o222 (bl o392) bz) (bn o1 (bl o470) bz)) (bn o171 (bn o0 (bl o0) bz) (bl o348)))) (bn o37 (bn o0 (bn o1 (bn (o207 P) (bl o0) bz) (bn o303 (bl o458) bz)) (bn o0 (bn o261 (bl o1) bz) (bn o0 (bl o0) bz))) (bn o88 (bn o136 (bn (o236 P) (bl o401) bz) (bn o0 (bl o480) bz)) (bn o180 (bn o279 (bl o438) bz) (bl o362))))))) (bn (boot_o_5 P) (bn (boot_o_9 P) (bn o6 (bn o16 (bn (o42 P) (bn o1 (bn o0 (bl o366) bz) (bn o1 (bl o441) bz)) (bn o10 (bn o244 (bl o0) bz) (bn o324 (bl o483) bz))) (bn o68 (bn o116 (bn o10 (bl o387) bz) (bn o306 (bl o1) bz)) (bn o166 (bn o264 (bl o0) bz) (bn o343 (bl o501) bz)))) (bn o32 (bn o55 (bn o106 (bn o200 (bl o375) bz) (bn o0 (bl o451) bz)) (bn o154 (bn o253 (bl o414) bz) (bn o333 (bl o0) bz))) (bn o80 (bn o129 (bn o229 (bl o1) bz) (bn o0 (bl o0) bz)) (bn o1 (bn o274 (bl o432) bz) (bl (o353 P)))))) (bn o0 (bn o23 (bn o50 (bn o98 (bn o191 (bl o0) bz) (bn o289 (bl o446) bz)) (bn o148 (bn o1 (bl o409) bz) (bn o0 (bl o488) bz))) (bn o0 (bn o0 (bn o225 (bl o0) bz) (bn o311 (bl o469) bz)) (bn o0 (bn o269 (bl o1) bz) (bl o0)))) (bn o0 (bn o10 (bn o111 (bn o205 (bl o380) bz) (bn o301 (bl o456) bz)) (bn o161 (bn o0 (bl o419) bz) (bn o338 (bl o1) bz))) (bn o0 (bn o134 (bn o234 (bl o400) bz) (bn o1 (bl o478) bz)) (bn o179 (bn o0 (bl o0) bz) (bl o361)))))) (bn o2 (bn o9 (bn (o19 P) (bn o28 (bn o94 (bn o187 (bl o369) bz) (bn o285 (bl o1) bz)) (bn o146 (bn o246 (bl o0) bz) (bn o327 (bl o485) bz))) (bn o71 (bn o120 (bn o217 (bl o0) bz) (bn o308 (bl o467) bz)) (bn o0 (bn o1 (bl o425) bz) (bl o0)))) (bn o0 (bn o58 (bn o108 (bn o202 (bl o1) bz) (bn o0 (bl o0) bz)) (bn o10 (bn o256 (bl o416) bz) (bn o1 (bl o494) bz))) (bn o0 (bn o1 (bn o231 (bl o398) bz) (bn o317 (bl o0) bz)) (bn o177 (bn o0 (bl o435) bz) (bl o357))))) (bn o0 (bn (o29 P) (bn o1 (bn o10 (bn o10 (bl o0) bz) (bn o293 (bl o448) bz)) (bn o151 (bn o251 (bl o1) bz) (bn o0 (bl o0) bz))) (bn o76 (bn o0 (bn o10 (bl o393) bz) (bn o0 (bl o472) bz)) (bn o172 (bn o271 (bl o430) bz) (bl o349)))) (bn o38 (bn o66 (bn o0 (bn o209 (bl (o384 P)) bz) (bn o1 (bl o460) bz)) (bn o163 (bn o0 (bl o0) bz) (bn o340 (bl o499) bz))) (bn o89 (bn o138 (bn o238 (bl o403) bz) (bn o322 (bl o1) bz)) (bn o182 (bn o280 (bl o0) bz) (bl o364)))))))) (bn (o194 P) (bn (boot_o_4 P) (bn (boot_o_8 P) (bn o1 (bn o0 (bn o41 (bn o0 (bn o183 (bl o1) bz) (bn o0 (bl o0) bz)) (bn o28 (bn (o243 P) (bl o404) bz) (bn o1 (bl o482) bz))) (bn o1 (bn o115 (bn o215 (bl o386) bz) (bn o305 (bl o0) bz)) (bn o165 (bn o0 (bl o423) bz) (bn o342 (bl o1) bz)))) (bn o31 (bn o54 (bn o105 (bn o199 (bl o0) bz) (bn (o296 P) (bl o450) bz)) (bn o153 (bn o1 (bl o413) bz) (bn o0 (bl o492) bz))) (bn o79 (bn o0 (bn o228 (bl o0) bz) (bn o315 (bl o473) bz)) (bn o0 (bn o273 (bl o1) bz) (bl o352))))) (bn (o11 P) (bn o22 (bn o0 (bn (o97 P) (bn o190 (bl o370) bz) (bn (o288 P) (bl o445) bz)) (bn o1 (bn o0 (bl o0) bz) (bn o328 (bl o487) bz))) (bn o72 (bn (o124 P) (bn (o219 P) (bl o391) bz) (bn o310 (bl o1) bz)) (bn o170 (bn o268 (bl o0) bz) (bl o347)))) (bn o36 (bn o28 (bn o110 (bn o204 (bl o379) bz) (bn o0 (bl o455) bz)) (bn o160 (bn (o259 P) (bl o418) bz) (bn o337 (bl o0) bz))) (bn o87 (bn o133 (bn o233 (bl o1) bz) (bn o0 (bl o0) bz)) (bn o1 (bn o278 (bl o436) bz) (bl o1)))))) (bn o464 (bn o8 (bn o0 (bn o45 (bn o93 (bn o186 (bl o368) bz) (bn o284 (bl o0) bz)) (bn o145 (bn o1 (bl o407) bz) (bn o326 (bl o1) bz))) (bn o70 (bn o119 (bn o1 (bl o388) bz) (bn o1 (bl o466) bz)) (bn o167 (bn o0 (bl o0) bz) (bl o344)))) (bn o33 (bn (o57 P) (bn o1 (bn o1 (bl o0) bz) (bn o299 (bl o452) bz)) (bn o0 (bn o255 (bl o1) bz) (bn o0 (bl o0) bz))) (bn (o84 P) (bn o0 (bn o1 (bl o397) bz) (bn o0 (bl o476) bz)) (bn o176 (bn o275 (bl o434) bz) (bl o356))))) (bn o14 (bn o10 (bn o0 (bn o28 (bn o197 (bl o373) bz) (bn o292 (bl o1) bz)) (bn o150 (bn o250 (bl o0) bz) (bn o331 (bl o489) bz))) (bn o75 (bn o127 (bn o226 (bl o0) bz) (bn o312 (bl o471) bz)) (bn o0 (bn o1 (bl o429) bz) (bl o0)))) (bn o0 (bn o65 (bn o112 (bn o214 (bl o10) bz) (bn o0 (bl o459) bz)) (bn o1 (bn o262 (bl o420) bz) (bn o1 (bl o498) bz))) (bn o0 (bn (o137 P) (bn o237 (bl o402) bz) (bn o321 (bl o0) bz)) (bn o181 (bn o0 (bl o439) bz) (bl o363))))))) (bn (boot_o_6 P) (bn (boot_o_10 P) (bn o0 (bn o17 (bn o43 (bn o92 (bn o184 (bl o0) bz) (bn o283 (bl o442) bz)) (bn (o144 P) (bn o245 (bl o405) bz) (bn o0 (bl o484) bz))) (bn o0 (bn (o117 P) (bn (o216 P) (bl o0) bz) (bn o307 (bl o465) bz)) (bn o0 (bn o265 (bl o1) bz) (bn o0 (bl o502) bz)))) (bn o0 (bn o56 (bn o107 (bn o201 (bl o376) bz) (bn o297 (bl o0) bz)) (bn o155 (bn o0 (bl o415) bz) (bn o334 (bl o1) bz))) (bn o28 (bn o130 (bn o230 (bl o396) bz) (bn o1 (bl o474) bz)) (bn o175 (bn o0 (bl o0) bz) (bl o354))))) (bn o12 (bn o24 (bn o51 (bn o99 (bn o192 (bl o371) bz) (bn o290 (bl o447) bz)) (bn o0 (bn o249 (bl o410) bz) (bn o329 (bl o0) bz))) (bn o73 (bn o125 (bn o221 (bl o1) bz) (bn o0 (bl o0) bz)) (bn o1 (bn o270 (bl o428) bz) (bl o1)))) (bn o1 (bn (o64 P) (bn o0 (bn o206 (bl o381) bz) (bn o302 (bl (o457 P)) bz)) (bn o162 (bn o260 (bl o0) bz) (bn o339 (bl o497) bz))) (bn o1 (bn o135 (bn o235 (bl o0) bz) (bn o320 (bl o479) bz)) (bn o0 (bn o1 (bl o437) bz) (bl o0)))))) (bn o3 (bn o0 (bn o143 (bn o10 (bn o95 (bn (o188 P) (bl o0) bz) (bn o286 (bl o444) bz)) (bn o147 (bn o247 (bl o1) bz) (bn o0 (bl o0) bz))) (bn o0 (bn o28 (bn o218 (bl o389) bz) (bn o0 (bl o468) bz)) (bn o168 (bn o267 (bl o426) bz) (bl o345)))) (bn o34 (bn o59 (bn o0 (bn o0 (bl o378) bz) (bn o1 (bl o453) bz)) (bn (o159 P) (bn o0 (bl o0) bz) (bn o336 (bl o495) bz))) (bn o85 (bn o132 (bn o0 (bl o399) bz) (bn o318 (bl o1) bz)) (bn o178 (bn o276 (bl o0) bz) (bl o358))))) (bn o1 (bn o0 (bn o53 (bn (o104 P) (bn (o198 P) (bl o1) bz) (bn o0 (bl o0) bz)) (bn o0 (bn o252 (bl o412) bz) (bn o1 (bl o490) bz))) (bn (o77 P) (bn o1 (bn (o227 P) (bl o394) bz) (bn o313 (bl o0) bz)) (bn o173 (bn o0 (bl o431) bz) (bl o350)))) (bn o39 (bn o67 (bn o113 (bn o210 (bl o0) bz) (bn o304 (bl o461) bz)) (bn o0 (bn o1 (bl o421) bz) (bn o0 (bl o500) bz))) (bn o90 (bn o139 (bn o239 (bl o0) bz) (bn o323 (bl o481) bz)) (bn o0 (bn o281 (bl o1) bz) (bl o365)))))))))
noncomputable def sts17 : List Stmt := [topS 46,topS 47,topS 48,topS 49,topS 50,topS 51,topS 52,topS 53,topS 54,topS 55,topS 56]
noncomputable def heapF (P : Params) : Heap := Heap.mk (Array.mk [boot_o_0 P,boot_o_1 P,o194 P,o463 P,boot_o_4 P,boot_o_5 P,boot_o_6 P,boot_o_7 P,boot_o_8 P,boot_o_9 P,boot_o_10 P,o0,o464,o2,o3,o0,o1,o6,o0,o7,o8,o9,o0,o10,o11 P,o0,o12,o13,o14,o0,o1,o15,o0,o16,o17,o18,o0,o19 P,o143,o21,o22,o23,o24,o28,o10,o29 P,o0,o30,o31,o32,o0,o1,o33,o0,o34,o35,o36,o0,o1,o37,o0,o38,o39,o40,o41,o42 P,o43,o44,o45,o28,o10,o49 P,o0,o50,o51,o52,o0,o1,o53,o0,o54,o55,o56,o0,o57 P,o58,o59,o60,o28,o10,o64 P,o0,o65,o66,o67,o0,o1,o68,o0,o69,o70,o71,o0,o1,o72,o0,o73,o74,o75,o76,o77 P,o78,o79,o80,o28,o10,o84 P,o0,o85,o86,o87,o0,o1,o88,o0,o89,o90,o91,o0,o1,o92,o0,o93,o94,o95,o96,o97 P,o98,o99,o100,o28,o10,o104 P,o0,o105,o106,o107,o0,o1,o108,o0,o109,o110,o111,o0,o1,o112,o0,o113,o114,o115,o116,o117 P,o118,o119,o120,o28,o10,o124 P,o0,o125,o126,o127,o0,o1,o128,o0,o129,o130,o131,o0,o1,o132,o0,o133,o134,o135,o136,o137 P,o138,o139,o140,o28,o10,o144 P,o0,o145,o146,o147,o0,o1,o148,o0,o149,o150,o151,o0,o152 P,o153,o154,o155,o156,o0,o10,o159 P,o0,o160,o161,o162,o0,o1,o163,o0,o164,o165,o166,o0,o1,o167,o0,o168,o169,o170,o0,o1,o171,o0,o172,o173,o174,o0,o1,o175,o0,o176,o177,o178,o0,o1,o179,o0,o180,o181,o182,o0,o1,o183,o0,o184,o185,o186,o187,o188 P,o189,o190,o191,o192,o193,o197,o10,o198 P,o0,o199,o200,o201,o0,o1,o202,o0,o203,o204,o205,o206,o207 P,o214,o209,o210,o211,o215,o10,o216 P,o0,o1,o217,o218,o0,o219 P,o225,o221,o222,o226,o10,o227 P,o0,o228,o229,o230,o0,o1,o231,o0,o232,o233,o234,o235,o236 P,o237,o238,o239,o240,o243 P,o244,o245,o0,o1,o246,o247,o248,o0,o1,o249,o0,o250,o251,o252,o0,o1,o253,o0,o254,o255,o256,o0,o10,o259 P,o0,o260,o261,o262,o0,o1,o263,o0,o264,o265,o266,o0,o1,o267,o0,o268,o269,o270,o0,o1,o271,o0,o272,o273,o274,o0,o1,o275,o0,o276,o277,o278,o0,o1,o279,o0,o280,o281,o282,o0,o1,o283,o0,o284,o285,o286,o287,o288 P,o289,o290,o291,o292,o293,o0,o10,o296 P,o0,o297,o298,o299,o0,o1,o300,o0,o301,o302,o303,o0,o1,o304,o0,o305,o306,o307,o0,o1,o308,o0,o309,o310,o311,o0,o1,o312,o0,o313,o314,o315,o0,o1,o316,o0,o317,o318,o319,o0,o1,o320,o0,o321,o322,o323,o0,o1,o324,o0,o325,o326,o327,o0,o1,o328,o0,o329,o330,o331,o0,o1,o332,o0,o333,o334,o335,o0,o1,o336,o0,o337,o338,o339,o0,o1,o340,o0,o341,o342,o343,o0,o1,o344,o0,o345,o346,o347,o0,o1,o348,o0,o349,o350,o351,o352,o353 P,o354,o355,o356,o357,o358,o0,o1,o361,o0,o362,o363,o364,o365,o0,o1,o366,o0,o367,o368,o369,o0,o1,o370,o0,o371,o372,o373,o0,o1,o374,o0,o375,o376,o377,o0,o1,o378,o0,o379,o380,o381,o0,o10,o384 P,o0,o385,o386,o387,o0,o1,o388,o0,o389,o390,o391,o0,o1,o392,o0,o393,o394,o395,o0,o1,o396,o0,o397,o398,o399,o0,o1,o400,o0,o401,o402,o403,o0,o1,o404,o0,o405,o406,o407,o0,o1,o408,o0,o409,o410,o411,o0,o1,o412,o0,o413,o414,o415,o0,o1,o416,o0,o417,o418,o419,o0,o1,o420,o0,o421,o422,o423,o0,o1,o424,o0,o425,o426,o427,o0,o1,o428,o0,o429,o430,o431,o0,o1,o432,o0,o433,o434,o435,o0,o1,o436,o0,o437,o438,o439,o0,o1,o440,o0,o441,o442,o443,o0,o1,o444,o0,o445,o446,o447,o0,o1,o448,o0,o449,o450,o451,o0,o1,o452,o0,o453,o454,o455,o456,o457 P,o458,o459,o460,o461,o462,o0,o1,o465,o0,o466,o467,o468,o0,o1,o469,o0,o470,o471,o472,o0,o1,o473,o0,o474,o475,o476,o0,o1,o477,o0,o478,o479,o480,o0,o1,o481,o0,o482,o483,o484,o0,o1,o485,o0,o486,o487,o488,o0,o1,o489,o0,o490,o491,o492,o0,o1,o493,o0,o494,o495,o496,o0,o1,o497,o0,o498,o499,o500,o0,o1,o501,o502,o503]) lf0
noncomputable def hdM:Nat:=12 + (1 + (259 + (277 + (244 + (277 + (277 + (277 + (279 + (266 + (391 + (229 + (214 + (368 + (235 + (386 + (637 + (213 + (733 + (319 + 2)))))))))))))))))))
noncomputable def viewE:Program:={ pP with main := { pP.main with body := [topS 0,topS 2,topS 3,topS 4,topS 5,topS 6,topS 7,topS 8,topS 9,topS 11,topS 12,topS 14,topS 15,topS 16,topS 18,topS 19,topS 20,topS 21,topS 22,topS 23,topS 24,topS 25,topS 26,topS 27,topS 28,topS 29,topS 30,topS 31,topS 32,topS 33,topS 34,topS 35,topS 36,topS 38,topS 39,topS 40,topS 41,topS 43,topS 45,topS 47,topS 48,topS 49,topS 50,topS 51,topS 52,topS 53,topS 54,topS 55,topS 56] } }
noncomputable def kE (P : Params) : Frag := [(2,o194 P),(3,o463 P),(15,o0),(17,o6),(18,o0),(20,o8),(21,o9),(29,o0),(31,o15),(32,o0),(34,o17),(35,o18),(36,o0),(37,o19 P),(38,o143),(39,o21),(40,o22),(43,o28),(50,o0),(52,o33),(53,o0),(55,o35),(56,o36),(57,o0),(59,o37),(60,o0),(62,o39),(63,o40),(64,o41),(65,o42 P),(66,o43),(69,o28),(76,o0),(78,o53),(79,o0),(81,o55),(82,o56),(83,o0),(84,o57 P),(85,o58),(88,o28),(95,o0),(97,o68),(98,o0),(100,o70),(101,o71),(102,o0),(104,o72),(105,o0),(107,o74),(108,o75),(109,o76),(110,o77 P),(111,o78),(114,o28),(121,o0),(123,o88),(124,o0),(126,o90),(127,o91),(128,o0),(130,o92),(131,o0),(133,o94),(134,o95),(135,o96),(136,o97 P),(137,o98),(140,o28),(147,o0),(149,o108),(150,o0),(152,o110),(153,o111),(154,o0),(156,o112),(157,o0),(159,o114),(160,o115),(161,o116),(162,o117 P),(163,o118),(166,o28),(173,o0),(175,o128),(176,o0),(178,o130),(179,o131),(180,o0),(182,o132),(183,o0),(185,o134),(186,o135),(187,o136),(188,o137 P),(189,o138),(192,o28),(199,o0),(201,o148),(202,o0),(204,o150),(205,o151),(206,o0),(207,o152 P),(208,o153),(211,o156),(219,o0),(221,o163),(222,o0),(224,o165),(225,o166),(226,o0),(228,o167),(229,o0),(231,o169),(232,o170),(233,o0),(235,o171),(236,o0),(238,o173),(239,o174),(240,o0),(242,o175),(243,o0),(245,o177),(246,o178),(247,o0),(249,o179),(250,o0),(252,o181),(253,o182),(254,o0),(256,o183),(257,o0),(259,o185),(260,o186),(261,o187),(262,o188 P),(263,o189),(264,o190),(265,o191),(268,o197),(275,o0),(277,o202),(278,o0),(280,o204),(281,o205),(282,o206),(283,o207 P),(284,o214),(285,o209),(288,o215),(295,o0),(296,o219 P),(297,o225),(300,o226),(307,o0),(309,o231),(310,o0),(312,o233),(313,o234),(314,o235),(315,o236 P),(316,o237),(319,o240),(320,o243 P),(321,o244),(322,o245),(323,o0),(326,o247),(327,o248),(328,o0),(330,o249),(331,o0),(333,o251),(334,o252),(335,o0),(337,o253),(338,o0),(340,o255),(341,o256),(349,o0),(351,o263),(352,o0),(354,o265),(355,o266),(356,o0),(358,o267),(359,o0),(361,o269),(362,o270),(363,o0),(365,o271),(366,o0),(368,o273),(369,o274),(370,o0),(372,o275),(373,o0),(375,o277),(376,o278),(377,o0),(379,o279),(380,o0),(382,o281),(383,o282),(384,o0),(386,o283),(387,o0),(389,o285),(390,o286),(391,o287),(392,o288 P),(393,o289),(394,o290),(395,o291),(405,o0),(407,o300),(408,o0),(410,o302),(411,o303),(412,o0),(414,o304),(415,o0),(417,o306),(418,o307),(419,o0),(421,o308),(422,o0),(424,o310),(425,o311),(426,o0),(428,o312),(429,o0),(431,o314),(432,o315),(433,o0),(435,o316),(436,o0),(438,o318),(439,o319),(440,o0),(442,o320),(443,o0),(445,o322),(446,o323),(447,o0),(449,o324),(450,o0),(452,o326),(453,o327),(454,o0),(456,o328),(457,o0),(459,o330),(460,o331),(461,o0),(463,o332),(464,o0),(466,o334),(467,o335),(468,o0),(470,o336),(471,o0),(473,o338),(474,o339),(475,o0),(477,o340),(478,o0),(480,o342),(481,o343),(482,o0),(484,o344),(485,o0),(487,o346),(488,o347),(489,o0),(491,o348),(492,o0),(494,o350),(495,o351),(496,o352),(497,o353 P),(498,o354),(499,o355),(500,o356),(503,o0),(505,o361),(506,o0),(508,o363),(509,o364),(510,o365),(511,o0),(513,o366),(514,o0),(516,o368),(517,o369),(518,o0),(520,o370),(521,o0),(523,o372),(524,o373),(525,o0),(527,o374),(528,o0),(530,o376),(531,o377),(532,o0),(534,o378),(535,o0),(537,o380),(538,o381),(546,o0),(548,o388),(549,o0),(551,o390),(552,o391),(553,o0),(555,o392),(556,o0),(558,o394),(559,o395),(560,o0),(562,o396),(563,o0),(565,o398),(566,o399),(567,o0),(569,o400),(570,o0),(572,o402),(573,o403),(574,o0),(576,o404),(577,o0),(579,o406),(580,o407),(581,o0),(583,o408),(584,o0),(586,o410),(587,o411),(588,o0),(590,o412),(591,o0),(593,o414),(594,o415),(595,o0),(597,o416),(598,o0),(600,o418),(601,o419),(602,o0),(604,o420),(605,o0),(607,o422),(608,o423),(609,o0),(611,o424),(612,o0),(614,o426),(615,o427),(616,o0),(618,o428),(619,o0),(621,o430),(622,o431),(623,o0),(625,o432),(626,o0),(628,o434),(629,o435),(630,o0),(632,o436),(633,o0),(635,o438),(636,o439),(637,o0),(639,o440),(640,o0),(642,o442),(643,o443),(644,o0),(646,o444),(647,o0),(649,o446),(650,o447),(651,o0),(653,o448),(654,o0),(656,o450),(657,o451),(658,o0),(660,o452),(661,o0),(663,o454),(664,o455),(665,o456),(666,o457 P),(667,o458),(668,o459),(669,o460),(672,o0),(674,o465),(675,o0),(677,o467),(678,o468),(679,o0),(681,o469),(682,o0),(684,o471),(685,o472),(686,o0),(688,o473),(689,o0),(691,o475),(692,o476),(693,o0),(695,o477),(696,o0),(698,o479),(699,o480),(700,o0),(702,o481),(703,o0),(705,o483),(706,o484),(707,o0),(709,o485),(710,o0),(712,o487),(713,o488),(714,o0),(716,o489),(717,o0),(719,o491),(720,o492),(721,o0),(723,o493),(724,o0),(726,o495),(727,o496),(728,o0),(730,o497),(731,o0),(733,o499),(734,o500),(735,o0),(738,o502),(739,o503)]
noncomputable def kA : List Addr := [2,3,15,17,18,20,21,29,31,32,34,35,36,37,38,39,40,43,50,52,53,55,56,57,59,60,62,63,64,65,66,69,76,78,79,81,82,83,84,85,88,95,97,98,100,101,102,104,105,107,108,109,110,111,114,121,123,124,126,127,128,130,131,133,134,135,136,137,140,147,149,150,152,153,154,156,157,159,160,161,162,163,166,173,175,176,178,179,180,182,183,185,186,187,188,189,192,199,201,202,204,205,206,207,208,211,219,221,222,224,225,226,228,229,231,232,233,235,236,238,239,240,242,243,245,246,247,249,250,252,253,254,256,257,259,260,261,262,263,264,265,268,275,277,278,280,281,282,283,284,285,288,295,296,297,300,307,309,310,312,313,314,315,316,319,320,321,322,323,326,327,328,330,331,333,334,335,337,338,340,341,349,351,352,354,355,356,358,359,361,362,363,365,366,368,369,370,372,373,375,376,377,379,380,382,383,384,386,387,389,390,391,392,393,394,395,405,407,408,410,411,412,414,415,417,418,419,421,422,424,425,426,428,429,431,432,433,435,436,438,439,440,442,443,445,446,447,449,450,452,453,454,456,457,459,460,461,463,464,466,467,468,470,471,473,474,475,477,478,480,481,482,484,485,487,488,489,491,492,494,495,496,497,498,499,500,503,505,506,508,509,510,511,513,514,516,517,518,520,521,523,524,525,527,528,530,531,532,534,535,537,538,546,548,549,551,552,553,555,556,558,559,560,562,563,565,566,567,569,570,572,573,574,576,577,579,580,581,583,584,586,587,588,590,591,593,594,595,597,598,600,601,602,604,605,607,608,609,611,612,614,615,616,618,619,621,622,623,625,626,628,629,630,632,633,635,636,637,639,640,642,643,644,646,647,649,650,651,653,654,656,657,658,660,661,663,664,665,666,667,668,669,672,674,675,677,678,679,681,682,684,685,686,688,689,691,692,693,695,696,698,699,700,702,703,705,706,707,709,710,712,713,714,716,717,719,720,721,723,724,726,727,728,730,731,733,734,735,738,739]
theorem hd_pre : ∀ w : World,(fun os => topGo treeTable pP w 11 annE 12 (⟨boot_heap w.params,Array.mk [],boot_drawn,boot_toks,os⟩ : Shared) (topStub pP)) = fun os => some ((⟨heapA w.params,Array.mk [],drE,187,os⟩ : Shared),(⟨denote treeTable hcE,hcE,⟨0,0,0,0⟩,hBE⟩ : Thread)) := fun w => by rw [PySem.W.Fast.te15667345088766844465,PySem.W.Fast.te14364793385576792824,PySem.W.Fast.te11892475500146522536]; kernel_rfl
theorem hd_block : ∀ w : World,(fun os => segRun treeTable pP w 11 annE 1 1 (⟨heapA w.params,Array.mk [],drE,187,os⟩ : Shared) (blockOf (behindTheImports pP) envE hcE ⟨0,0,0,0⟩ hBE)) = fun os => some (Flow.next,(SharedT.abs ⟨tB w.params,15,lf0,Array.mk [],drE,187,os⟩),hcE,⟨0,0,0,0⟩) := fun w => by rw [PySem.W.Fast.te14374325043358763698,PySem.W.Fast.te14364793385576792824]; kernel_rfl
theorem g0 : ∀ w : World,(fun os => segRunT treeTable pP w 11 annE 1 259 (⟨tB w.params,15,lf0,Array.mk [],drE,187,os⟩ : SharedT) (piecesOf sts0 envE hcE ⟨0,0,0,0⟩ hBE)) = fun os => some (Flow.next,(⟨t0 w.params,43,lf0,Array.mk [],drE,223,os⟩ : SharedT),hcE,⟨5,0,8,24⟩) := fun w => by rw [PySem.W.Fast.te10110043849684766642,PySem.W.Fast.te14364793385576792824]; kernel_rfl
theorem g1 : ∀ w : World,(fun os => segRunT treeTable pP w 11 annE 1 277 (⟨t0 w.params,43,lf0,Array.mk [],drE,223,os⟩ : SharedT) (piecesOf sts1 envE hcE ⟨5,0,8,24⟩ hBE)) = fun os => some (Flow.next,(⟨t1 w.params,69,lf0,Array.mk [],drE,255,os⟩ : SharedT),hcE,⟨9,0,15,35⟩) := fun w => by rw [PySem.W.Fast.te10110043849684766642,PySem.W.Fast.te14364793385576792824]; kernel_rfl
theorem g2 : ∀ w : World,(fun os => segRunT treeTable pP w 11 annE 1 244 (⟨t1 w.params,69,lf0,Array.mk [],drE,255,os⟩ : SharedT) (piecesOf sts2 envE hcE ⟨9,0,15,35⟩ hBE)) = fun os => some (Flow.next,(⟨t2 w.params,88,lf0,Array.mk [],drE,278,os⟩ : SharedT),hcE,⟨16,0,19,26⟩) := fun w => by rw [PySem.W.Fast.te10110043849684766642,PySem.W.Fast.te14364793385576792824]; kernel_rfl
theorem g3 : ∀ w : World,(fun os => segRunT treeTable pP w 11 annE 1 277 (⟨t2 w.params,88,lf0,Array.mk [],drE,278,os⟩ : SharedT) (piecesOf sts3 envE hcE ⟨16,0,19,26⟩ hBE)) = fun os => some (Flow.next,(⟨t3 w.params,114,lf0,Array.mk [],drE,310,os⟩ : SharedT),hcE,⟨20,0,26,38⟩) := fun w => by rw [PySem.W.Fast.te10110043849684766642,PySem.W.Fast.te14364793385576792824]; kernel_rfl
theorem g4 : ∀ w : World,(fun os => segRunT treeTable pP w 11 annE 1 277 (⟨t3 w.params,114,lf0,Array.mk [],drE,310,os⟩ : SharedT) (piecesOf sts4 envE hcE ⟨20,0,26,38⟩ hBE)) = fun os => some (Flow.next,(⟨t4 w.params,140,lf0,Array.mk [],drE,342,os⟩ : SharedT),hcE,⟨27,0,33,39⟩) := fun w => by rw [PySem.W.Fast.te10110043849684766642,PySem.W.Fast.te14364793385576792824]; kernel_rfl
theorem g5 : ∀ w : World,(fun os => segRunT treeTable pP w 11 annE 1 277 (⟨t4 w.params,140,lf0,Array.mk [],drE,342,os⟩ : SharedT) (piecesOf sts5 envE hcE ⟨27,0,33,39⟩ hBE)) = fun os => some (Flow.next,(⟨t5 w.params,166,lf0,Array.mk [],drE,374,os⟩ : SharedT),hcE,⟨34,0,40,37⟩) := fun w => by rw [PySem.W.Fast.te10110043849684766642,PySem.W.Fast.te14364793385576792824]; kernel_rfl
theorem g6 : ∀ w : World,(fun os => segRunT treeTable pP w 11 annE 1 279 (⟨t5 w.params,166,lf0,Array.mk [],drE,374,os⟩ : SharedT) (piecesOf sts6 envE hcE ⟨34,0,40,37⟩ hBE)) = fun os => some (Flow.next,(⟨t6 w.params,192,lf0,Array.mk [],drE,408,os⟩ : SharedT),hcE,⟨41,0,48,48⟩) := fun w => by rw [PySem.W.Fast.te10110043849684766642,PySem.W.Fast.te14364793385576792824]; kernel_rfl
theorem g7 : ∀ w : World,(fun os => segRunT treeTable pP w 11 annE 1 266 (⟨t6 w.params,192,lf0,Array.mk [],drE,408,os⟩ : SharedT) (piecesOf sts7 envE hcE ⟨41,0,48,48⟩ hBE)) = fun os => some (Flow.next,(⟨t7 w.params,212,lf0,Array.mk [],drE,437,os⟩ : SharedT),hcE,⟨54,0,54,11⟩) := fun w => by rw [PySem.W.Fast.te10110043849684766642,PySem.W.Fast.te14364793385576792824]; kernel_rfl
theorem g8 : ∀ w : World,(fun os => segRunT treeTable pP w 11 annE 1 391 (⟨t7 w.params,212,lf0,Array.mk [],drE,437,os⟩ : SharedT) (piecesOf sts8 envE hcE ⟨54,0,54,11⟩ hBE)) = fun os => some (Flow.next,(⟨t8 w.params,268,lf0,Array.mk [],drE,507,os⟩ : SharedT),hcE,⟨110,0,110,8⟩) := fun w => by rw [PySem.W.Fast.te10110043849684766642,PySem.W.Fast.te14364793385576792824]; kernel_rfl
theorem g9 : ∀ w : World,(fun os => segRunT treeTable pP w 11 annE 1 229 (⟨t8 w.params,268,lf0,Array.mk [],drE,507,os⟩ : SharedT) (piecesOf sts9 envE hcE ⟨110,0,110,8⟩ hBE)) = fun os => some (Flow.next,(⟨t9 w.params,288,lf0,Array.mk [],drE,536,os⟩ : SharedT),hcE,⟨111,0,114,30⟩) := fun w => by rw [PySem.W.Fast.te10110043849684766642,PySem.W.Fast.te14364793385576792824]; kernel_rfl
theorem g10 : ∀ w : World,(fun os => segRunT treeTable pP w 11 annE 1 214 (⟨t9 w.params,288,lf0,Array.mk [],drE,536,os⟩ : SharedT) (piecesOf sts10 envE hcE ⟨111,0,114,30⟩ hBE)) = fun os => some (Flow.next,(⟨t10 w.params,300,lf0,Array.mk [],drE,552,os⟩ : SharedT),hcE,⟨115,0,116,8⟩) := fun w => by rw [PySem.W.Fast.te10110043849684766642,PySem.W.Fast.te14364793385576792824]; kernel_rfl
theorem g11 : ∀ w : World,(fun os => segRunT treeTable pP w 11 annE 1 368 (⟨t10 w.params,300,lf0,Array.mk [],drE,552,os⟩ : SharedT) (piecesOf sts11 envE hcE ⟨115,0,116,8⟩ hBE)) = fun os => some (Flow.next,(⟨t11 w.params,320,lf0,Array.mk [],drE,606,os⟩ : SharedT),hcE,⟨130,0,130,12⟩) := fun w => by rw [PySem.W.Fast.te10110043849684766642,PySem.W.Fast.te14364793385576792824]; kernel_rfl
theorem g12 : ∀ w : World,(fun os => segRunT treeTable pP w 11 annE 1 235 (⟨t11 w.params,320,lf0,Array.mk [],drE,606,os⟩ : SharedT) (piecesOf sts12 envE hcE ⟨130,0,130,12⟩ hBE)) = fun os => some (Flow.next,(⟨t12 w.params,342,lf0,Array.mk [],drE,707,os⟩ : SharedT),hcE,⟨142,0,143,48⟩) := byRow2 "special-get-raises" (P := fun w => (fun os => segRunT treeTable pP w 11 annE 1 235 (⟨t11 w.params,320,lf0,Array.mk [],drE,606,os⟩ : SharedT) (piecesOf sts12 envE hcE ⟨130,0,130,12⟩ hBE)) = fun os => some (Flow.next,(⟨t12 w.params,342,lf0,Array.mk [],drE,707,os⟩ : SharedT),hcE,⟨142,0,143,48⟩)) (fun w => by rw [PySem.W.Fast.te10110043849684766642,PySem.W.Fast.te14364793385576792824]; kernel_rfl) (fun w => by rw [PySem.W.Fast.te10110043849684766642,PySem.W.Fast.te14364793385576792824]; kernel_rfl)
theorem g13 : ∀ w : World,(fun os => segRunT treeTable pP w 11 annE 1 386 (⟨t12 w.params,342,lf0,Array.mk [],drE,707,os⟩ : SharedT) (piecesOf sts13 envE hcE ⟨142,0,143,48⟩ hBE)) = fun os => some (Flow.next,(⟨t13 w.params,398,lf0,Array.mk [],drE,779,os⟩ : SharedT),hcE,⟨144,0,165,49⟩) := fun w => by rw [PySem.W.Fast.te10110043849684766642,PySem.W.Fast.te14364793385576792824]; kernel_rfl
theorem g14 : ∀ w : World,(fun os => segRunT treeTable pP w 11 annE 1 637 (⟨t13 w.params,398,lf0,Array.mk [],drE,779,os⟩ : SharedT) (piecesOf sts14 envE hcE ⟨144,0,165,49⟩ hBE)) = fun os => some (Flow.next,(⟨t14 w.params,503,lf0,Array.mk [],drE,934,os⟩ : SharedT),hcE,⟨166,0,298,48⟩) := fun w => by rw [PySem.W.Fast.te10110043849684766642,PySem.W.Fast.te14364793385576792824]; kernel_rfl
theorem g15 : ∀ w : World,(fun os => segRunT treeTable pP w 11 annE 1 213 (⟨t14 w.params,503,lf0,Array.mk [],drE,934,os⟩ : SharedT) (piecesOf sts15 envE hcE ⟨166,0,298,48⟩ hBE)) = fun os => some (Flow.next,(⟨t15 w.params,539,lf0,Array.mk [],drE,1006,os⟩ : SharedT),hcE,⟨341,0,341,8⟩) := fun w => by rw [PySem.W.Fast.te10110043849684766642,PySem.W.Fast.te14364793385576792824]; kernel_rfl
theorem g16 : ∀ w : World,(fun os => segRunT treeTable pP w 11 annE 1 733 (⟨t15 w.params,539,lf0,Array.mk [],drE,1006,os⟩ : SharedT) (piecesOf sts16 envE hcE ⟨341,0,341,8⟩ hBE)) = fun os => some (Flow.next,(⟨t16 w.params,672,lf0,Array.mk [],drE,1161,os⟩ : SharedT),hcE,⟨342,0,409,16⟩) := fun w => by rw [PySem.W.Fast.te10110043849684766642,PySem.W.Fast.te14364793385576792824]; kernel_rfl
theorem g17 : ∀ w : World,(fun os => segRunT treeTable pP w 11 annE 1 319 (⟨t16 w.params,672,lf0,Array.mk [],drE,1161,os⟩ : SharedT) (piecesOf sts17 envE hcE ⟨342,0,409,16⟩ hBE)) = fun os => some (Flow.next,(⟨t17 w.params,740,lf0,Array.mk [],drE,1254,os⟩ : SharedT),hcE,⟨473,0,488,70⟩) := fun w => by rw [PySem.W.Fast.te10110043849684766642,PySem.W.Fast.te14364793385576792824]; kernel_rfl
theorem hd_fin : ∀ w : World,(fun os => topRun treeTable pP w 11 annE 2 (SharedT.abs ⟨t17 w.params,740,lf0,Array.mk [],drE,1254,os⟩) (⟨doneF Flow.next,hcE,⟨473,0,488,70⟩,hBE⟩ : Thread)) = fun os => some (⟨heapF w.params,Array.mk [],drE,1254,os⟩ : Shared) := fun w => by rw [PySem.W.Fast.te14082659384304107361,PySem.W.Fast.te14364793385576792824]; kernel_rfl
theorem hd_body : behindTheImports pP = (sts0 ++ (sts1 ++ (sts2 ++ (sts3 ++ (sts4 ++ (sts5 ++ (sts6 ++ (sts7 ++ (sts8 ++ (sts9 ++ (sts10 ++ (sts11 ++ (sts12 ++ (sts13 ++ (sts14 ++ (sts15 ++ (sts16 ++ (sts17 ++ [])))))))))))))))))) := by kernel_rfl
theorem hd_chain (w : World) (os : OsState) : topRun treeTable pP w 11 annE (259 + (277 + (244 + (277 + (277 + (277 + (279 + (266 + (391 + (229 + (214 + (368 + (235 + (386 + (637 + (213 + (733 + (319 + 2)))))))))))))))))) (SharedT.abs ⟨tB w.params,15,lf0,Array.mk [],drE,187,os⟩) (restOf (sts0 ++ (sts1 ++ (sts2 ++ (sts3 ++ (sts4 ++ (sts5 ++ (sts6 ++ (sts7 ++ (sts8 ++ (sts9 ++ (sts10 ++ (sts11 ++ (sts12 ++ (sts13 ++ (sts14 ++ (sts15 ++ (sts16 ++ (sts17 ++ [])))))))))))))))))) envE hcE ⟨0,0,0,0⟩ hBE) = some (⟨heapF w.params,Array.mk [],drE,1254,os⟩ : Shared) := (piece_app (l := sts0) (rest := (sts1 ++ (sts2 ++ (sts3 ++ (sts4 ++ (sts5 ++ (sts6 ++ (sts7 ++ (sts8 ++ (sts9 ++ (sts10 ++ (sts11 ++ (sts12 ++ (sts13 ++ (sts14 ++ (sts15 ++ (sts16 ++ (sts17 ++ [])))))))))))))))))) (s := (SharedT.abs ⟨tB w.params,15,lf0,Array.mk [],drE,187,os⟩)) (s' := (SharedT.abs ⟨t0 w.params,43,lf0,Array.mk [],drE,223,os⟩)) (segRun_of (congrFun (g0 w) os)) (piece_app (l := sts1) (rest := (sts2 ++ (sts3 ++ (sts4 ++ (sts5 ++ (sts6 ++ (sts7 ++ (sts8 ++ (sts9 ++ (sts10 ++ (sts11 ++ (sts12 ++ (sts13 ++ (sts14 ++ (sts15 ++ (sts16 ++ (sts17 ++ []))))))))))))))))) (s := (SharedT.abs ⟨t0 w.params,43,lf0,Array.mk [],drE,223,os⟩)) (s' := (SharedT.abs ⟨t1 w.params,69,lf0,Array.mk [],drE,255,os⟩)) (segRun_of (congrFun (g1 w) os)) (piece_app (l := sts2) (rest := (sts3 ++ (sts4 ++ (sts5 ++ (sts6 ++ (sts7 ++ (sts8 ++ (sts9 ++ (sts10 ++ (sts11 ++ (sts12 ++ (sts13 ++ (sts14 ++ (sts15 ++ (sts16 ++ (sts17 ++ [])))))))))))))))) (s := (SharedT.abs ⟨t1 w.params,69,lf0,Array.mk [],drE,255,os⟩)) (s' := (SharedT.abs ⟨t2 w.params,88,lf0,Array.mk [],drE,278,os⟩)) (segRun_of (congrFun (g2 w) os)) (piece_app (l := sts3) (rest := (sts4 ++ (sts5 ++ (sts6 ++ (sts7 ++ (sts8 ++ (sts9 ++ (sts10 ++ (sts11 ++ (sts12 ++ (sts13 ++ (sts14 ++ (sts15 ++ (sts16 ++ (sts17 ++ []))))))))))))))) (s := (SharedT.abs ⟨t2 w.params,88,lf0,Array.mk [],drE,278,os⟩)) (s' := (SharedT.abs ⟨t3 w.params,114,lf0,Array.mk [],drE,310,os⟩)) (segRun_of (congrFun (g3 w) os)) (piece_app (l := sts4) (rest := (sts5 ++ (sts6 ++ (sts7 ++ (sts8 ++ (sts9 ++ (sts10 ++ (sts11 ++ (sts12 ++ (sts13 ++ (sts14 ++ (sts15 ++ (sts16 ++ (sts17 ++ [])))))))))))))) (s := (SharedT.abs ⟨t3 w.params,114,lf0,Array.mk [],drE,310,os⟩)) (s' := (SharedT.abs ⟨t4 w.params,140,lf0,Array.mk [],drE,342,os⟩)) (segRun_of (congrFun (g4 w) os)) (piece_app (l := sts5) (rest := (sts6 ++ (sts7 ++ (sts8 ++ (sts9 ++ (sts10 ++ (sts11 ++ (sts12 ++ (sts13 ++ (sts14 ++ (sts15 ++ (sts16 ++ (sts17 ++ []))))))))))))) (s := (SharedT.abs ⟨t4 w.params,140,lf0,Array.mk [],drE,342,os⟩)) (s' := (SharedT.abs ⟨t5 w.params,166,lf0,Array.mk [],drE,374,os⟩)) (segRun_of (congrFun (g5 w) os)) (piece_app (l := sts6) (rest := (sts7 ++ (sts8 ++ (sts9 ++ (sts10 ++ (sts11 ++ (sts12 ++ (sts13 ++ (sts14 ++ (sts15 ++ (sts16 ++ (sts17 ++ [])))))))))))) (s := (SharedT.abs ⟨t5 w.params,166,lf0,Array.mk [],drE,374,os⟩)) (s' := (SharedT.abs ⟨t6 w.params,192,lf0,Array.mk [],drE,408,os⟩)) (segRun_of (congrFun (g6 w) os)) (piece_app (l := sts7) (rest := (sts8 ++ (sts9 ++ (sts10 ++ (sts11 ++ (sts12 ++ (sts13 ++ (sts14 ++ (sts15 ++ (sts16 ++ (sts17 ++ []))))))))))) (s := (SharedT.abs ⟨t6 w.params,192,lf0,Array.mk [],drE,408,os⟩)) (s' := (SharedT.abs ⟨t7 w.params,212,lf0,Array.mk [],drE,437,os⟩)) (segRun_of (congrFun (g7 w) os)) (piece_app (l := sts8) (rest := (sts9 ++ (sts10 ++ (sts11 ++ (sts12 ++ (sts13 ++ (sts14 ++ (sts15 ++ (sts16 ++ (sts17 ++ [])))))))))) (s := (SharedT.abs ⟨t7 w.params,212,lf0,Array.mk [],drE,437,os⟩)) (s' := (SharedT.abs ⟨t8 w.params,268,lf0,Array.mk [],drE,507,os⟩)) (segRun_of (congrFun (g8 w) os)) (piece_app (l := sts9) (rest := (sts10 ++ (sts11 ++ (sts12 ++ (sts13 ++ (sts14 ++ (sts15 ++ (sts16 ++ (sts17 ++ []))))))))) (s := (SharedT.abs ⟨t8 w.params,268,lf0,Array.mk [],drE,507,os⟩)) (s' := (SharedT.abs ⟨t9 w.params,288,lf0,Array.mk [],drE,536,os⟩)) (segRun_of (congrFun (g9 w) os)) (piece_app (l := sts10) (rest := (sts11 ++ (sts12 ++ (sts13 ++ (sts14 ++ (sts15 ++ (sts16 ++ (sts17 ++ [])))))))) (s := (SharedT.abs ⟨t9 w.params,288,lf0,Array.mk [],drE,536,os⟩)) (s' := (SharedT.abs ⟨t10 w.params,300,lf0,Array.mk [],drE,552,os⟩)) (segRun_of (congrFun (g10 w) os)) (piece_app (l := sts11) (rest := (sts12 ++ (sts13 ++ (sts14 ++ (sts15 ++ (sts16 ++ (sts17 ++ []))))))) (s := (SharedT.abs ⟨t10 w.params,300,lf0,Array.mk [],drE,552,os⟩)) (s' := (SharedT.abs ⟨t11 w.params,320,lf0,Array.mk [],drE,606,os⟩)) (segRun_of (congrFun (g11 w) os)) (piece_app (l := sts12) (rest := (sts13 ++ (sts14 ++ (sts15 ++ (sts16 ++ (sts17 ++ [])))))) (s := (SharedT.abs ⟨t11 w.params,320,lf0,Array.mk [],drE,606,os⟩)) (s' := (SharedT.abs ⟨t12 w.params,342,lf0,Array.mk [],drE,707,os⟩)) (segRun_of (congrFun (g12 w) os)) (piece_app (l := sts13) (rest := (sts14 ++ (sts15 ++ (sts16 ++ (sts17 ++ []))))) (s := (SharedT.abs ⟨t12 w.params,342,lf0,Array.mk [],drE,707,os⟩)) (s' := (SharedT.abs ⟨t13 w.params,398,lf0,Array.mk [],drE,779,os⟩)) (segRun_of (congrFun (g13 w) os)) (piece_app (l := sts14) (rest := (sts15 ++ (sts16 ++ (sts17 ++ [])))) (s := (SharedT.abs ⟨t13 w.params,398,lf0,Array.mk [],drE,779,os⟩)) (s' := (SharedT.abs ⟨t14 w.params,503,lf0,Array.mk [],drE,934,os⟩)) (segRun_of (congrFun (g14 w) os)) (piece_app (l := sts15) (rest := (sts16 ++ (sts17 ++ []))) (s := (SharedT.abs ⟨t14 w.params,503,lf0,Array.mk [],drE,934,os⟩)) (s' := (SharedT.abs ⟨t15 w.params,539,lf0,Array.mk [],drE,1006,os⟩)) (segRun_of (congrFun (g15 w) os)) (piece_app (l := sts16) (rest := (sts17 ++ [])) (s := (SharedT.abs ⟨t15 w.params,539,lf0,Array.mk [],drE,1006,os⟩)) (s' := (SharedT.abs ⟨t16 w.params,672,lf0,Array.mk [],drE,1161,os⟩)) (segRun_of (congrFun (g16 w) os)) (piece_app (l := sts17) (rest := []) (s := (SharedT.abs ⟨t16 w.params,672,lf0,Array.mk [],drE,1161,os⟩)) (s' := (SharedT.abs ⟨t17 w.params,740,lf0,Array.mk [],drE,1254,os⟩)) (segRun_of (congrFun (g17 w) os)) (congrFun (hd_fin w) os)))))))))))))))))))
theorem hd_run (w : World) (os : OsState) : topRun treeTable pP w 11 annE (12 + (1 + (259 + (277 + (244 + (277 + (277 + (277 + (279 + (266 + (391 + (229 + (214 + (368 + (235 + (386 + (637 + (213 + (733 + (319 + 2)))))))))))))))))))) (⟨boot_heap w.params,Array.mk [],boot_drawn,boot_toks,os⟩ : Shared) (topStub pP) = some (⟨heapF w.params,Array.mk [],drE,1254,os⟩ : Shared) :=
  go_top (congrFun (hd_pre w) os) (piece_block (congrFun (hd_block w) os) (by rw [hd_body]; exact hd_chain w os))
end Mine
end
section
set_option maxHeartbeats 8000000
namespace Mine
noncomputable def looseE : List Str := ["NAME_SIGNS","LIKE_SIGNS","GREATEST"]
noncomputable def lvE : List (Str × WData) := [("NAME_SIGNS",.str "abcdefghijklmnopqrstuvwxyzABCDEFGHIJKLMNOPQRSTUVWXYZ_0123456789$"),("GREATEST",.int 9223372036854775808)]
theorem kA_eq : ∀ P,kA = (kE P).map (·.1) := fun _ => by kernel_rfl
noncomputable def hookE:Hook:=kHook kE kA kA_eq
theorem hd_op1 : opening pP = plainProg pP.main.scope.names := by kernel_rfl
theorem hd_open : ∀ w : World,(fencedOpening treeTable pP w 11852).map (fun s => (s.heap,s.gens,s.drawn,s.toks)) = some (boot_heap w.params,Array.mk [],boot_drawn,boot_toks) := boot_open hd_op1 (by decide +kernel) (fun s => by kernel_rfl)
theorem hd_size : ∀ w : World,((boot_heap w.params).isNs mainGlobals && (Array.mk [] : Array GenState).size == 0,(boot_heap w.params).objs.size,(boot_heap w.params).nsMap mainGlobals "__annotations__") = (true,11,annE) := fun w => by kernel_rfl
noncomputable def live (o : Obj) : Bool := match o with
  | ⟨_,_,.freed,_⟩ => false
  | _ => true
theorem get_live {h : Heap} {a : Addr} {o : Obj} (e : h.objs.toList[a]? = some o) (l : live o = true) : h.get? a = some o := by
  rw [Array.getElem?_toList] at e
  unfold Heap.get?
  rw [e]
  obtain ⟨c,d,x,z⟩ := o
  cases x <;> first | rfl | cases l
noncomputable def pick : List Obj → Nat → List Nat → Option (List Obj)
  | [],_,as => cond as.isEmpty (some []) none
  | o :: r,i,as => match as with
    | [] => some []
    | a :: t => cond (Nat.beq a i) (cond (live o) ((pick r (i + 1) t).map (o :: ·)) none) (pick r (i + 1) (a :: t))
theorem pick_ok {H : Heap} : ∀ (l : List Obj) (i : Nat) (as : List Nat) (os : List Obj),H.objs.toList.drop i = l → pick l i as = some os → as.map H.get? = os.map some
  | [],i,as,os,hl,h => by
    unfold pick at h
    cases as with
    | nil => cases h; rfl
    | cons a t => cases h
  | o :: r,i,as,os,hl,h => by
    have hr : H.objs.toList.drop (i + 1) = r := by rw [← List.drop_drop,hl]; rfl
    unfold pick at h
    cases as with
    | nil => cases h; rfl
    | cons a t =>
      have h : cond (Nat.beq a i) (cond (live o) ((pick r (i + 1) t).map (o :: ·)) none) (pick r (i + 1) (a :: t)) = some os := h
      cases hb : Nat.beq a i with
      | true =>
        rw [hb,cond_true] at h
        cases hv : live o with
        | false => rw [hv] at h; cases h
        | true =>
        rw [hv,cond_true] at h
        obtain ⟨os',h',rfl⟩ := Option.map_eq_some_iff.mp h
        have e := Nat.eq_of_beq_eq_true hb
        subst e
        rw [List.map_cons,List.map_cons,pick_ok r (a + 1) t os' hr h',get_live (by rw [← List.head?_drop,hl]; rfl) hv]
      | false =>
        rw [hb,cond_false] at h
        exact pick_ok r (i + 1) (a :: t) os hr h
theorem obs_of {K : Params → Frag} {A : List Addr} {e : ∀ P,A = (K P).map (·.1)} {s : Shared} {w : World} (h : pick s.heap.objs.toList 0 A = some ((K w.params).map (·.2))) : (kHook K A e).obs s = (kHook K A e).val w := by
  have h := pick_ok (H := s.heap) s.heap.objs.toList 0 A _ rfl h
  rw [List.map_map] at h
  exact h
theorem k_pick (P : Params) : pick (heapF P).objs.toList 0 kA = some ((kE P).map (·.2)) := by kernel_rfl
noncomputable abbrev sF (w : World) (os : OsState) : Shared := ⟨heapF w.params,Array.mk [],drE,1254,os⟩
theorem tt {a b : Bool} (h : a = true) (k : b = true) : (a && b) = true := by rw [h,k]; rfl
theorem a_1 (w : World) : staticsOk (importedModules pP.main.body) (boot_heap w.params) (heapF w.params) = true := by kernel_rfl
theorem a_2 (w : World) : namesBound pP (heapF w.params) = true := by kernel_rfl
theorem a_4 (w : World) : laidKept (boot_heap w.params) (heapF w.params) = true := by kernel_rfl
theorem b_1 (w : World) (os : OsState) : seen ((recsOf viewE).map (·.name)) (ownsOf viewE) [] { sF w os with gens := #[] } = expectedOf viewE := by kernel_rfl
theorem b_2 (w : World) : (heapF w.params).bltView = bltViewBooted := by kernel_rfl
theorem b_31 (w : World) : (heapF w.params).keysOk (looseW viewE looseE) ((recsOf viewE).map (·.name)) ((litsOf viewE).map (·.1)) ((clssOf viewE (looseW viewE looseE)).map (·.name)) = true := by kernel_rfl
theorem b_32 (w : World) : (heapF w.params).accountedOkI (importedModules pP.main.body) = true := by kernel_rfl
theorem b_33 (w : World) : (heapF w.params).isNs mainGlobals = true := by kernel_rfl
theorem b_34 (w : World) : (heapF w.params).isNs builtinsNs = true := by kernel_rfl
theorem b_35 (w : World) : tablesOk viewE (heapF w.params) = true := by kernel_rfl
theorem b_36 (w : World) (os : OsState) : (xlAt viewE lvE (sF w os) && recOk [] (sF w os)) = true := by kernel_rfl
theorem b_4 (w : World) (os : OsState) : tabsOk viewE (sF w os) = true := by kernel_rfl
theorem b_5 (w : World) (os : OsState) : pinSeenD viewE (drecsOf viewE) (sF w os) = pinGoodD (drecsOf viewE) := by kernel_rfl
theorem b_6 (w : World) (os : OsState) : plainSeenE viewE (looseW viewE looseE) (sF w os) = plainGoodE viewE (looseW viewE looseE) := by kernel_rfl
theorem b_7 (w : World) (os : OsState) : plainSeenD viewE looseE (sF w os) = plainGoodD viewE looseE := by kernel_rfl
theorem b_8 (w : World) (os : OsState) : wideSeen viewE (sF w os) = wideGood viewE := by kernel_rfl
theorem b_9 (w : World) (os : OsState) : clsSeenW viewE looseE (sF w os) = clsGoodW viewE looseE := by kernel_rfl
theorem seen_of {q : Program} {l ms : List Str} {X : Shared → Bool} {s : Shared} (b1 : seen ((recsOf q).map (·.name)) (ownsOf q) [] { s with gens := #[] } = expectedOf q) (b2 : s.heap.bltView = bltViewBooted)
    (b31 : s.heap.keysOk (looseW q l) ((recsOf q).map (·.name)) ((litsOf q).map (·.1)) ((clssOf q (looseW q l)).map (·.name)) = true) (b32 : s.heap.accountedOkI ms = true) (b33 : s.heap.isNs mainGlobals = true) (b34 : s.heap.isNs builtinsNs = true)
    (b35 : tablesOk q s.heap = true) (b36 : X s = true) (b37 : (s.gens.size == 0) = true) (b4 : tabsOk q s = true) (b5 : pinSeenD q (drecsOf q) s = pinGoodD (drecsOf q)) (b6 : plainSeenE q (looseW q l) s = plainGoodE q (looseW q l))
    (b7 : plainSeenD q l s = plainGoodD q l) (b8 : wideSeen q s = wideGood q) (b9 : clsSeenW q l s = clsGoodW q l) : openSeen q l ms X true s = openGood q l := by
  unfold openSeen openGood
  rw [b1,b2,b31,b32,b33,b34,b35,b36,b4,b5,b6,b7,b8,b9,if_pos rfl,b37]
  rfl
theorem hd_looks : ∀ w : World,(fun os => ((staticsOk (importedModules pP.main.body) (boot_heap w.params) (heapF w.params) && namesBound pP (heapF w.params) && gensDone ⟨heapF w.params,Array.mk [],drE,1254,os⟩ && laidKept (boot_heap w.params) (heapF w.params)),
        openSeen viewE looseE (importedModules pP.main.body) (fun s => xlAt viewE lvE s && recOk [] s) true ⟨heapF w.params,Array.mk [],drE,1254,os⟩,hookE.obs ⟨heapF w.params,Array.mk [],drE,1254,os⟩)) = fun _ => (true,openGood viewE looseE,hookE.val w) := fun w =>
  funext fun os => looks_pair (tt (tt (tt (a_1 w) (a_2 w)) rfl) (a_4 w)) (looks_pair (seen_of (X := fun s => xlAt viewE lvE s && recOk [] s) (b_1 w os) (b_2 w) (b_31 w) (b_32 w) (b_33 w) (b_34 w) (b_35 w) (b_36 w os) rfl (b_4 w os) (b_5 w os) (b_6 w os) (b_7 w os) (b_8 w os) (b_9 w os)) (obs_of (e := kA_eq) (k_pick w.params)))
end Mine
end
section
set_option maxHeartbeats 8000000
namespace Mine
noncomputable abbrev lw : OpenLaw := PySem.Challenge.rw_pb0457_01
theorem w_3 : namesResolve pP = true := by kernel_rfl
theorem w_4 : pP.boundNames.all (fun n => !worldNames.contains n) = true := by kernel_rfl
theorem o_1 : readsOut pP pP.main.body "vars" = false := by kernel_rfl
theorem o_2 : readsOut pP pP.main.body "dir" = false := by kernel_rfl
theorem o_3 : readsOut pP pP.main.body "locals" = false := by kernel_rfl
theorem bare_no {f : Str → Bool} (a : f "vars" = false) (b : f "dir" = false) (c : f "locals" = false) : (["vars","dir","locals"] : List Str).filter f = [] := by
  simp [a,b,c]
theorem road_of {s : Bool} {b : List Str} {body : List Stmt} (e : b = []) (h : noRoadLSs { strict := s,foot := none,bare := [] } body = true) : noRoadLSs { strict := s,foot := none,bare := b } body = true := e ▸ h
theorem w_5 : noRoadLSs { strict := !(importedModules pP.main.body).all cThrough.contains,foot := none,bare := [] } pP.main.body = true := by kernel_rfl
theorem w_6 : (namesMeet pP pP.main.body fun _ n => attrL n) = true := by kernel_rfl
theorem looks_1 : looksOpen pP = true := tt (tt (tt (tt (tt (by kernel_rfl) (by kernel_rfl)) w_3) w_4) (road_of (bare_no o_1 o_2 o_3) w_5)) w_6
theorem row_1 : lw.row.wellSaid = true := tt (tt (tt (tt (tt (tt (tt (tt (tt (tt (tt (tt (tt (tt (tt looks_1 rfl) rfl) rfl) rfl) rfl) rfl) (by kernel_rfl)) (by kernel_rfl)) (by kernel_rfl)) rfl) rfl) rfl) rfl) (by kernel_rfl)) (by kernel_rfl)
theorem f_2 : noClassBlock lw.prog lw.footing = true := by kernel_rfl
theorem f_3 : noRoadLSs { strict := true,foot := some lw.bound',writes := lw.writes,may := lw.may } lw.footing = true := by kernel_rfl
theorem f_4 : lw.namesIt = true := by kernel_rfl
theorem f_5 : lw.bound'.all (fun n => !builtinNamed n || lw.about == [n] || !lw.reads n) = true := by kernel_rfl
theorem f_6 : (namesMeet lw.prog lw.footing (fun sc n => (!(["type","isinstance","issubclass","getattr","hasattr"] : List Str).contains n || sc.names.lookup n == some .globalImplicit) &&
    (lw.may != some n || sc.kind == .module || sc.names.lookup n == some .globalImplicit))) = true := by kernel_rfl
theorem f_7 : (namesMeet lw.prog lw.above (fun _ n => !lw.own.contains n)) = true := by kernel_rfl
theorem f_8 : (namesMeet lw.prog lw.footing fun sc n => sc.kind == .module || sc.names.lookup n != some .globalExplicit) = true := by kernel_rfl
theorem said0 : OpenLaw.wellSaid PySem.Challenge.rw_pb0457_01 = true :=
  tt (tt (tt (tt (tt (tt (tt (tt (tt (tt (tt (tt (tt (tt (tt (tt (tt (tt row_1 (by kernel_rfl)) (by kernel_rfl)) f_2) (by kernel_rfl)) (by kernel_rfl)) f_3) (by kernel_rfl)) f_4) (by kernel_rfl)) f_5) (by kernel_rfl)) (by kernel_rfl)) f_6) (by kernel_rfl)) (by kernel_rfl)) (by kernel_rfl)) f_7) f_8
end Mine
end
section
set_option maxHeartbeats 4000000
namespace Mine
noncomputable def strValsB : List Value → Option (List Str)
  | [] => some []
  | .str y _ :: r => (strValsB r).map (y :: ·)
  | _ => none
theorem strsAre_of : ∀ {vs : List Value} {ys : List Str},strValsB vs = some ys → StrsAre vs ys
  | [],_,h => by cases h; exact .nil
  | v :: r,ys,h => by
    cases v with
    | str y t =>
      obtain ⟨zs,hz,rfl⟩ := Option.map_eq_some_iff.mp h
      exact .cons y t (strsAre_of hz)
    | _ => cases h
theorem len1 {P : List Value → Prop} (q : ∀ a,P [a]) : ∀ vs : List Value,vs.length = 1 → P vs
  | [a],_ => q a
theorem len2 {P : List Value → Prop} (q : ∀ a b,P [a,b]) : ∀ vs : List Value,vs.length = 2 → P vs
  | [a,b],_ => q a b
theorem len3 {P : List Value → Prop} (q : ∀ a b c,P [a,b,c]) : ∀ vs : List Value,vs.length = 3 → P vs
  | [a,b,c],_ => q a b c
theorem len4 {P : List Value → Prop} (q : ∀ a b c d,P [a,b,c,d]) : ∀ vs : List Value,vs.length = 4 → P vs
  | [a,b,c,d],_ => q a b c d
theorem len5 {P : List Value → Prop} (q : ∀ a b c d e,P [a,b,c,d,e]) : ∀ vs : List Value,vs.length = 5 → P vs
  | [a,b,c,d,e],_ => q a b c d e
noncomputable def seqOf (o : Obj) : List Value := match o.data with
  | .seq xs _ => xs.toList
  | _ => []
theorem all12 {K : Frag} {C : Addr} (h : (List.range 12).map (fun c => findIn K (.ref C) (nm c)) = List.replicate 12 (some none)) : ∀ c,c < 12 → findIn K (.ref C) (nm c) = some none := fun c hc => by
  have e := congrArg (·[c]?) h
  rw [List.getElem?_map,List.getElem?_range hc,List.getElem?_replicate,if_pos hc] at e
  exact Option.some.inj e
noncomputable def fnChk (fi : FI) (k : Nat) : Bool := !fi.scope.isCoroutine && !fi.scope.isGenerator && fi.scope.names.all (fun x => decide (x.2 ≠ .cell)) && (fi.names.take k).all (fun x => decide (fi.scope.names.lookup x = some .local)) && Nat.ble k fi.names.length && !Nat.beq fi.f 739
theorem fnAt_mk {g : GW} {fi : FI} {params : Arguments} {body : List Stmt} {k : Nat} {oc : Value} {od : Option Addr} {dV kV doc pm : Value} {an : Option Addr} {ct : Value} {name : Str} {osl : Array (Option Value)}
    (h : g.K.lookup fi.f = some ⟨oc,od,.func (fnOf name fi.qual params body fi.scope dV kV doc pm an fi.cdv ct),osl⟩) (hb : ∀ vs : List Value,vs.length = k → bindArgs (fnOf name fi.qual params body fi.scope dV kV doc pm an fi.cdv ct) ⟨vs,[]⟩ = pure ((fi.names.take k).zip vs))
    (hc : codeIn g.K fi.cdv fi.qual = true) (hs : fnChk fi k = true) : FnAt g fi params body k := by
  unfold fnChk at hs
  simp only [Bool.and_eq_true,Bool.not_eq_true',List.all_eq_true,decide_eq_true_eq] at hs
  obtain ⟨⟨⟨⟨⟨h1,h2⟩,h3⟩,h4⟩,h5⟩,h6⟩ := hs
  exact ⟨⟨_,_,_,_,_,_,_,_,_,_,h,hb⟩,hc,h1,h2,h3,h4,Nat.le_of_ble_eq_true h5,Nat.ne_of_beq_eq_false h6⟩
noncomputable def gE (x : GW) : GW := { x with K := kE x.w.params }
section
variable (x : GW)
theorem co_393 : ClsOk (gE x) 393 := ⟨by kernel_rfl,by kernel_rfl,all12 (by kernel_rfl),by kernel_rfl,by kernel_rfl⟩
theorem co_498 : ClsOk (gE x) 498 := ⟨by kernel_rfl,by kernel_rfl,all12 (by kernel_rfl),by kernel_rfl,by kernel_rfl⟩
theorem co_667 : ClsOk (gE x) 667 := ⟨by kernel_rfl,by kernel_rfl,all12 (by kernel_rfl),by kernel_rfl,by kernel_rfl⟩
theorem co_263 : ClsOk (gE x) 263 := ⟨by kernel_rfl,by kernel_rfl,all12 (by kernel_rfl),by kernel_rfl,by kernel_rfl⟩
theorem co_66 : ClsOk (gE x) 66 := ⟨by kernel_rfl,by kernel_rfl,all12 (by kernel_rfl),by kernel_rfl,by kernel_rfl⟩
theorem co_85 : ClsOk (gE x) 85 := ⟨by kernel_rfl,by kernel_rfl,all12 (by kernel_rfl),by kernel_rfl,by kernel_rfl⟩
theorem co_111 : ClsOk (gE x) 111 := ⟨by kernel_rfl,by kernel_rfl,all12 (by kernel_rfl),by kernel_rfl,by kernel_rfl⟩
theorem co_137 : ClsOk (gE x) 137 := ⟨by kernel_rfl,by kernel_rfl,all12 (by kernel_rfl),by kernel_rfl,by kernel_rfl⟩
theorem co_163 : ClsOk (gE x) 163 := ⟨by kernel_rfl,by kernel_rfl,all12 (by kernel_rfl),by kernel_rfl,by kernel_rfl⟩
theorem co_189 : ClsOk (gE x) 189 := ⟨by kernel_rfl,by kernel_rfl,all12 (by kernel_rfl),by kernel_rfl,by kernel_rfl⟩
theorem co_208 : ClsOk (gE x) 208 := ⟨by kernel_rfl,by kernel_rfl,all12 (by kernel_rfl),by kernel_rfl,by kernel_rfl⟩
theorem f_KO : KOk (gE x) := ⟨fun C hC => by
  unfold clsList at hC
  simp only [List.mem_cons,List.not_mem_nil,or_false] at hC
  rcases hC with rfl | rfl | rfl | rfl | rfl | rfl | rfl | rfl | rfl | rfl | rfl
  · exact co_393 x
  · exact co_498 x
  · exact co_667 x
  · exact co_263 x
  · exact co_66 x
  · exact co_85 x
  · exact co_111 x
  · exact co_137 x
  · exact co_163 x
  · exact co_189 x
  · exact co_208 x⟩
theorem ic_66 : plainGet (gE x).K 66 "__class__" = true ∧ hasDictIn (gE x).K 66 = true ∧ findIn (gE x).K (.ref 66) "__class__" = some (some (.builtin "object.__class__")) ∧ mroIn (gE x).K 66 (.type "object") = some true := ⟨by kernel_rfl,by kernel_rfl,by kernel_rfl,by kernel_rfl⟩
theorem is_66_66 : IsiOk (gE x) 66 66 := ⟨fun _ => by kernel_rfl,fun h => absurd rfl h,(ic_66 x).1,(ic_66 x).2.1,(ic_66 x).2.2.1,by kernel_rfl,by kernel_rfl,(ic_66 x).2.2.2⟩
theorem is_66_85 : IsiOk (gE x) 66 85 := ⟨fun h => absurd h (by decide),fun _ => by kernel_rfl,(ic_66 x).1,(ic_66 x).2.1,(ic_66 x).2.2.1,by kernel_rfl,by kernel_rfl,(ic_66 x).2.2.2⟩
theorem is_66_111 : IsiOk (gE x) 66 111 := ⟨fun h => absurd h (by decide),fun _ => by kernel_rfl,(ic_66 x).1,(ic_66 x).2.1,(ic_66 x).2.2.1,by kernel_rfl,by kernel_rfl,(ic_66 x).2.2.2⟩
theorem is_66_137 : IsiOk (gE x) 66 137 := ⟨fun h => absurd h (by decide),fun _ => by kernel_rfl,(ic_66 x).1,(ic_66 x).2.1,(ic_66 x).2.2.1,by kernel_rfl,by kernel_rfl,(ic_66 x).2.2.2⟩
theorem is_66_163 : IsiOk (gE x) 66 163 := ⟨fun h => absurd h (by decide),fun _ => by kernel_rfl,(ic_66 x).1,(ic_66 x).2.1,(ic_66 x).2.2.1,by kernel_rfl,by kernel_rfl,(ic_66 x).2.2.2⟩
theorem is_66_189 : IsiOk (gE x) 66 189 := ⟨fun h => absurd h (by decide),fun _ => by kernel_rfl,(ic_66 x).1,(ic_66 x).2.1,(ic_66 x).2.2.1,by kernel_rfl,by kernel_rfl,(ic_66 x).2.2.2⟩
theorem is_66_208 : IsiOk (gE x) 66 208 := ⟨fun h => absurd h (by decide),fun _ => by kernel_rfl,(ic_66 x).1,(ic_66 x).2.1,(ic_66 x).2.2.1,by kernel_rfl,by kernel_rfl,(ic_66 x).2.2.2⟩
theorem ic_85 : plainGet (gE x).K 85 "__class__" = true ∧ hasDictIn (gE x).K 85 = true ∧ findIn (gE x).K (.ref 85) "__class__" = some (some (.builtin "object.__class__")) ∧ mroIn (gE x).K 85 (.type "object") = some true := ⟨by kernel_rfl,by kernel_rfl,by kernel_rfl,by kernel_rfl⟩
theorem is_85_66 : IsiOk (gE x) 85 66 := ⟨fun h => absurd h (by decide),fun _ => by kernel_rfl,(ic_85 x).1,(ic_85 x).2.1,(ic_85 x).2.2.1,by kernel_rfl,by kernel_rfl,(ic_85 x).2.2.2⟩
theorem is_85_85 : IsiOk (gE x) 85 85 := ⟨fun _ => by kernel_rfl,fun h => absurd rfl h,(ic_85 x).1,(ic_85 x).2.1,(ic_85 x).2.2.1,by kernel_rfl,by kernel_rfl,(ic_85 x).2.2.2⟩
theorem is_85_111 : IsiOk (gE x) 85 111 := ⟨fun h => absurd h (by decide),fun _ => by kernel_rfl,(ic_85 x).1,(ic_85 x).2.1,(ic_85 x).2.2.1,by kernel_rfl,by kernel_rfl,(ic_85 x).2.2.2⟩
theorem is_85_137 : IsiOk (gE x) 85 137 := ⟨fun h => absurd h (by decide),fun _ => by kernel_rfl,(ic_85 x).1,(ic_85 x).2.1,(ic_85 x).2.2.1,by kernel_rfl,by kernel_rfl,(ic_85 x).2.2.2⟩
theorem is_85_163 : IsiOk (gE x) 85 163 := ⟨fun h => absurd h (by decide),fun _ => by kernel_rfl,(ic_85 x).1,(ic_85 x).2.1,(ic_85 x).2.2.1,by kernel_rfl,by kernel_rfl,(ic_85 x).2.2.2⟩
theorem is_85_189 : IsiOk (gE x) 85 189 := ⟨fun h => absurd h (by decide),fun _ => by kernel_rfl,(ic_85 x).1,(ic_85 x).2.1,(ic_85 x).2.2.1,by kernel_rfl,by kernel_rfl,(ic_85 x).2.2.2⟩
theorem is_85_208 : IsiOk (gE x) 85 208 := ⟨fun h => absurd h (by decide),fun _ => by kernel_rfl,(ic_85 x).1,(ic_85 x).2.1,(ic_85 x).2.2.1,by kernel_rfl,by kernel_rfl,(ic_85 x).2.2.2⟩
theorem ic_111 : plainGet (gE x).K 111 "__class__" = true ∧ hasDictIn (gE x).K 111 = true ∧ findIn (gE x).K (.ref 111) "__class__" = some (some (.builtin "object.__class__")) ∧ mroIn (gE x).K 111 (.type "object") = some true := ⟨by kernel_rfl,by kernel_rfl,by kernel_rfl,by kernel_rfl⟩
theorem is_111_66 : IsiOk (gE x) 111 66 := ⟨fun h => absurd h (by decide),fun _ => by kernel_rfl,(ic_111 x).1,(ic_111 x).2.1,(ic_111 x).2.2.1,by kernel_rfl,by kernel_rfl,(ic_111 x).2.2.2⟩
theorem is_111_85 : IsiOk (gE x) 111 85 := ⟨fun h => absurd h (by decide),fun _ => by kernel_rfl,(ic_111 x).1,(ic_111 x).2.1,(ic_111 x).2.2.1,by kernel_rfl,by kernel_rfl,(ic_111 x).2.2.2⟩
theorem is_111_111 : IsiOk (gE x) 111 111 := ⟨fun _ => by kernel_rfl,fun h => absurd rfl h,(ic_111 x).1,(ic_111 x).2.1,(ic_111 x).2.2.1,by kernel_rfl,by kernel_rfl,(ic_111 x).2.2.2⟩
theorem is_111_137 : IsiOk (gE x) 111 137 := ⟨fun h => absurd h (by decide),fun _ => by kernel_rfl,(ic_111 x).1,(ic_111 x).2.1,(ic_111 x).2.2.1,by kernel_rfl,by kernel_rfl,(ic_111 x).2.2.2⟩
theorem is_111_163 : IsiOk (gE x) 111 163 := ⟨fun h => absurd h (by decide),fun _ => by kernel_rfl,(ic_111 x).1,(ic_111 x).2.1,(ic_111 x).2.2.1,by kernel_rfl,by kernel_rfl,(ic_111 x).2.2.2⟩
theorem is_111_189 : IsiOk (gE x) 111 189 := ⟨fun h => absurd h (by decide),fun _ => by kernel_rfl,(ic_111 x).1,(ic_111 x).2.1,(ic_111 x).2.2.1,by kernel_rfl,by kernel_rfl,(ic_111 x).2.2.2⟩
theorem is_111_208 : IsiOk (gE x) 111 208 := ⟨fun h => absurd h (by decide),fun _ => by kernel_rfl,(ic_111 x).1,(ic_111 x).2.1,(ic_111 x).2.2.1,by kernel_rfl,by kernel_rfl,(ic_111 x).2.2.2⟩
theorem ic_137 : plainGet (gE x).K 137 "__class__" = true ∧ hasDictIn (gE x).K 137 = true ∧ findIn (gE x).K (.ref 137) "__class__" = some (some (.builtin "object.__class__")) ∧ mroIn (gE x).K 137 (.type "object") = some true := ⟨by kernel_rfl,by kernel_rfl,by kernel_rfl,by kernel_rfl⟩
theorem is_137_66 : IsiOk (gE x) 137 66 := ⟨fun h => absurd h (by decide),fun _ => by kernel_rfl,(ic_137 x).1,(ic_137 x).2.1,(ic_137 x).2.2.1,by kernel_rfl,by kernel_rfl,(ic_137 x).2.2.2⟩
theorem is_137_85 : IsiOk (gE x) 137 85 := ⟨fun h => absurd h (by decide),fun _ => by kernel_rfl,(ic_137 x).1,(ic_137 x).2.1,(ic_137 x).2.2.1,by kernel_rfl,by kernel_rfl,(ic_137 x).2.2.2⟩
theorem is_137_111 : IsiOk (gE x) 137 111 := ⟨fun h => absurd h (by decide),fun _ => by kernel_rfl,(ic_137 x).1,(ic_137 x).2.1,(ic_137 x).2.2.1,by kernel_rfl,by kernel_rfl,(ic_137 x).2.2.2⟩
theorem is_137_137 : IsiOk (gE x) 137 137 := ⟨fun _ => by kernel_rfl,fun h => absurd rfl h,(ic_137 x).1,(ic_137 x).2.1,(ic_137 x).2.2.1,by kernel_rfl,by kernel_rfl,(ic_137 x).2.2.2⟩
theorem is_137_163 : IsiOk (gE x) 137 163 := ⟨fun h => absurd h (by decide),fun _ => by kernel_rfl,(ic_137 x).1,(ic_137 x).2.1,(ic_137 x).2.2.1,by kernel_rfl,by kernel_rfl,(ic_137 x).2.2.2⟩
theorem is_137_189 : IsiOk (gE x) 137 189 := ⟨fun h => absurd h (by decide),fun _ => by kernel_rfl,(ic_137 x).1,(ic_137 x).2.1,(ic_137 x).2.2.1,by kernel_rfl,by kernel_rfl,(ic_137 x).2.2.2⟩
theorem is_137_208 : IsiOk (gE x) 137 208 := ⟨fun h => absurd h (by decide),fun _ => by kernel_rfl,(ic_137 x).1,(ic_137 x).2.1,(ic_137 x).2.2.1,by kernel_rfl,by kernel_rfl,(ic_137 x).2.2.2⟩
theorem ic_163 : plainGet (gE x).K 163 "__class__" = true ∧ hasDictIn (gE x).K 163 = true ∧ findIn (gE x).K (.ref 163) "__class__" = some (some (.builtin "object.__class__")) ∧ mroIn (gE x).K 163 (.type "object") = some true := ⟨by kernel_rfl,by kernel_rfl,by kernel_rfl,by kernel_rfl⟩
theorem is_163_66 : IsiOk (gE x) 163 66 := ⟨fun h => absurd h (by decide),fun _ => by kernel_rfl,(ic_163 x).1,(ic_163 x).2.1,(ic_163 x).2.2.1,by kernel_rfl,by kernel_rfl,(ic_163 x).2.2.2⟩
theorem is_163_85 : IsiOk (gE x) 163 85 := ⟨fun h => absurd h (by decide),fun _ => by kernel_rfl,(ic_163 x).1,(ic_163 x).2.1,(ic_163 x).2.2.1,by kernel_rfl,by kernel_rfl,(ic_163 x).2.2.2⟩
theorem is_163_111 : IsiOk (gE x) 163 111 := ⟨fun h => absurd h (by decide),fun _ => by kernel_rfl,(ic_163 x).1,(ic_163 x).2.1,(ic_163 x).2.2.1,by kernel_rfl,by kernel_rfl,(ic_163 x).2.2.2⟩
theorem is_163_137 : IsiOk (gE x) 163 137 := ⟨fun h => absurd h (by decide),fun _ => by kernel_rfl,(ic_163 x).1,(ic_163 x).2.1,(ic_163 x).2.2.1,by kernel_rfl,by kernel_rfl,(ic_163 x).2.2.2⟩
theorem is_163_163 : IsiOk (gE x) 163 163 := ⟨fun _ => by kernel_rfl,fun h => absurd rfl h,(ic_163 x).1,(ic_163 x).2.1,(ic_163 x).2.2.1,by kernel_rfl,by kernel_rfl,(ic_163 x).2.2.2⟩
theorem is_163_189 : IsiOk (gE x) 163 189 := ⟨fun h => absurd h (by decide),fun _ => by kernel_rfl,(ic_163 x).1,(ic_163 x).2.1,(ic_163 x).2.2.1,by kernel_rfl,by kernel_rfl,(ic_163 x).2.2.2⟩
theorem is_163_208 : IsiOk (gE x) 163 208 := ⟨fun h => absurd h (by decide),fun _ => by kernel_rfl,(ic_163 x).1,(ic_163 x).2.1,(ic_163 x).2.2.1,by kernel_rfl,by kernel_rfl,(ic_163 x).2.2.2⟩
theorem ic_189 : plainGet (gE x).K 189 "__class__" = true ∧ hasDictIn (gE x).K 189 = true ∧ findIn (gE x).K (.ref 189) "__class__" = some (some (.builtin "object.__class__")) ∧ mroIn (gE x).K 189 (.type "object") = some true := ⟨by kernel_rfl,by kernel_rfl,by kernel_rfl,by kernel_rfl⟩
theorem is_189_66 : IsiOk (gE x) 189 66 := ⟨fun h => absurd h (by decide),fun _ => by kernel_rfl,(ic_189 x).1,(ic_189 x).2.1,(ic_189 x).2.2.1,by kernel_rfl,by kernel_rfl,(ic_189 x).2.2.2⟩
theorem is_189_85 : IsiOk (gE x) 189 85 := ⟨fun h => absurd h (by decide),fun _ => by kernel_rfl,(ic_189 x).1,(ic_189 x).2.1,(ic_189 x).2.2.1,by kernel_rfl,by kernel_rfl,(ic_189 x).2.2.2⟩
theorem is_189_111 : IsiOk (gE x) 189 111 := ⟨fun h => absurd h (by decide),fun _ => by kernel_rfl,(ic_189 x).1,(ic_189 x).2.1,(ic_189 x).2.2.1,by kernel_rfl,by kernel_rfl,(ic_189 x).2.2.2⟩
theorem is_189_137 : IsiOk (gE x) 189 137 := ⟨fun h => absurd h (by decide),fun _ => by kernel_rfl,(ic_189 x).1,(ic_189 x).2.1,(ic_189 x).2.2.1,by kernel_rfl,by kernel_rfl,(ic_189 x).2.2.2⟩
theorem is_189_163 : IsiOk (gE x) 189 163 := ⟨fun h => absurd h (by decide),fun _ => by kernel_rfl,(ic_189 x).1,(ic_189 x).2.1,(ic_189 x).2.2.1,by kernel_rfl,by kernel_rfl,(ic_189 x).2.2.2⟩
theorem is_189_189 : IsiOk (gE x) 189 189 := ⟨fun _ => by kernel_rfl,fun h => absurd rfl h,(ic_189 x).1,(ic_189 x).2.1,(ic_189 x).2.2.1,by kernel_rfl,by kernel_rfl,(ic_189 x).2.2.2⟩
theorem is_189_208 : IsiOk (gE x) 189 208 := ⟨fun h => absurd h (by decide),fun _ => by kernel_rfl,(ic_189 x).1,(ic_189 x).2.1,(ic_189 x).2.2.1,by kernel_rfl,by kernel_rfl,(ic_189 x).2.2.2⟩
theorem ic_208 : plainGet (gE x).K 208 "__class__" = true ∧ hasDictIn (gE x).K 208 = true ∧ findIn (gE x).K (.ref 208) "__class__" = some (some (.builtin "object.__class__")) ∧ mroIn (gE x).K 208 (.type "object") = some true := ⟨by kernel_rfl,by kernel_rfl,by kernel_rfl,by kernel_rfl⟩
theorem is_208_66 : IsiOk (gE x) 208 66 := ⟨fun h => absurd h (by decide),fun _ => by kernel_rfl,(ic_208 x).1,(ic_208 x).2.1,(ic_208 x).2.2.1,by kernel_rfl,by kernel_rfl,(ic_208 x).2.2.2⟩
theorem is_208_85 : IsiOk (gE x) 208 85 := ⟨fun h => absurd h (by decide),fun _ => by kernel_rfl,(ic_208 x).1,(ic_208 x).2.1,(ic_208 x).2.2.1,by kernel_rfl,by kernel_rfl,(ic_208 x).2.2.2⟩
theorem is_208_111 : IsiOk (gE x) 208 111 := ⟨fun h => absurd h (by decide),fun _ => by kernel_rfl,(ic_208 x).1,(ic_208 x).2.1,(ic_208 x).2.2.1,by kernel_rfl,by kernel_rfl,(ic_208 x).2.2.2⟩
theorem is_208_137 : IsiOk (gE x) 208 137 := ⟨fun h => absurd h (by decide),fun _ => by kernel_rfl,(ic_208 x).1,(ic_208 x).2.1,(ic_208 x).2.2.1,by kernel_rfl,by kernel_rfl,(ic_208 x).2.2.2⟩
theorem is_208_163 : IsiOk (gE x) 208 163 := ⟨fun h => absurd h (by decide),fun _ => by kernel_rfl,(ic_208 x).1,(ic_208 x).2.1,(ic_208 x).2.2.1,by kernel_rfl,by kernel_rfl,(ic_208 x).2.2.2⟩
theorem is_208_189 : IsiOk (gE x) 208 189 := ⟨fun h => absurd h (by decide),fun _ => by kernel_rfl,(ic_208 x).1,(ic_208 x).2.1,(ic_208 x).2.2.1,by kernel_rfl,by kernel_rfl,(ic_208 x).2.2.2⟩
theorem is_208_208 : IsiOk (gE x) 208 208 := ⟨fun _ => by kernel_rfl,fun h => absurd rfl h,(ic_208 x).1,(ic_208 x).2.1,(ic_208 x).2.2.1,by kernel_rfl,by kernel_rfl,(ic_208 x).2.2.2⟩
theorem f_IO : IOk (gE x) := ⟨fun C hC D hD => by
  unfold nodeCls at hC hD
  simp only [List.mem_cons,List.not_mem_nil,or_false] at hC hD
  rcases hC with rfl | rfl | rfl | rfl | rfl | rfl | rfl
  · rcases hD with rfl | rfl | rfl | rfl | rfl | rfl | rfl
    · exact is_66_66 x
    · exact is_66_85 x
    · exact is_66_111 x
    · exact is_66_137 x
    · exact is_66_163 x
    · exact is_66_189 x
    · exact is_66_208 x
  · rcases hD with rfl | rfl | rfl | rfl | rfl | rfl | rfl
    · exact is_85_66 x
    · exact is_85_85 x
    · exact is_85_111 x
    · exact is_85_137 x
    · exact is_85_163 x
    · exact is_85_189 x
    · exact is_85_208 x
  · rcases hD with rfl | rfl | rfl | rfl | rfl | rfl | rfl
    · exact is_111_66 x
    · exact is_111_85 x
    · exact is_111_111 x
    · exact is_111_137 x
    · exact is_111_163 x
    · exact is_111_189 x
    · exact is_111_208 x
  · rcases hD with rfl | rfl | rfl | rfl | rfl | rfl | rfl
    · exact is_137_66 x
    · exact is_137_85 x
    · exact is_137_111 x
    · exact is_137_137 x
    · exact is_137_163 x
    · exact is_137_189 x
    · exact is_137_208 x
  · rcases hD with rfl | rfl | rfl | rfl | rfl | rfl | rfl
    · exact is_163_66 x
    · exact is_163_85 x
    · exact is_163_111 x
    · exact is_163_137 x
    · exact is_163_163 x
    · exact is_163_189 x
    · exact is_163_208 x
  · rcases hD with rfl | rfl | rfl | rfl | rfl | rfl | rfl
    · exact is_189_66 x
    · exact is_189_85 x
    · exact is_189_111 x
    · exact is_189_137 x
    · exact is_189_163 x
    · exact is_189_189 x
    · exact is_189_208 x
  · rcases hD with rfl | rfl | rfl | rfl | rfl | rfl | rfl
    · exact is_208_66 x
    · exact is_208_85 x
    · exact is_208_111 x
    · exact is_208_137 x
    · exact is_208_163 x
    · exact is_208_189 x
    · exact is_208_208 x⟩
theorem f_XO : ExOk (gE x) := ⟨⟨_,_,_,_,_,_,_,_,_,_,_,_,_,(show (kE x.w.params).lookup 316 = some (o237) by kernel_rfl)⟩,by kernel_rfl,by kernel_rfl,by kernel_rfl,by kernel_rfl,by kernel_rfl,by kernel_rfl⟩
theorem xkts : ktsIn (gE x).K 316 "BaseException" = true := by kernel_rfl
theorem xf_Begin_init : FnAt (gE x) fi_Begin_init (argsOf (clsS 3 0)) (bodyOf (clsS 3 0)) 2 := fnAt_mk (show (kE x.w.params).lookup 56 = some (o36) by kernel_rfl) (len2 fun _ _ => rfl) (by kernel_rfl) (by kernel_rfl)
theorem xmk_Begin : MakeOk (gE x) 66 56 := ⟨by kernel_rfl,by kernel_rfl,by kernel_rfl⟩
theorem xf_Begin_row : FnAt (gE x) fi_Begin_row (argsOf (clsS 3 1)) (bodyOf (clsS 3 1)) 1 := fnAt_mk (show (kE x.w.params).lookup 63 = some (o40) by kernel_rfl) (len1 fun _ => rfl) (by kernel_rfl) (by kernel_rfl)
theorem xm_Begin_row : MethOk (gE x) 66 3 63 := ⟨by decide,by kernel_rfl,by kernel_rfl,by kernel_rfl,by kernel_rfl⟩
theorem xf_Commit_row : FnAt (gE x) fi_Commit_row (argsOf (clsS 4 0)) (bodyOf (clsS 4 0)) 1 := fnAt_mk (show (kE x.w.params).lookup 82 = some (o56) by kernel_rfl) (len1 fun _ => rfl) (by kernel_rfl) (by kernel_rfl)
theorem xm_Commit_row : MethOk (gE x) 85 3 82 := ⟨by decide,by kernel_rfl,by kernel_rfl,by kernel_rfl,by kernel_rfl⟩
theorem xf_Rollback_init : FnAt (gE x) fi_Rollback_init (argsOf (clsS 5 0)) (bodyOf (clsS 5 0)) 2 := fnAt_mk (show (kE x.w.params).lookup 101 = some (o71) by kernel_rfl) (len2 fun _ _ => rfl) (by kernel_rfl) (by kernel_rfl)
theorem xmk_Rollback : MakeOk (gE x) 111 101 := ⟨by kernel_rfl,by kernel_rfl,by kernel_rfl⟩
theorem xf_Rollback_row : FnAt (gE x) fi_Rollback_row (argsOf (clsS 5 1)) (bodyOf (clsS 5 1)) 1 := fnAt_mk (show (kE x.w.params).lookup 108 = some (o75) by kernel_rfl) (len1 fun _ => rfl) (by kernel_rfl) (by kernel_rfl)
theorem xm_Rollback_row : MethOk (gE x) 111 3 108 := ⟨by decide,by kernel_rfl,by kernel_rfl,by kernel_rfl,by kernel_rfl⟩
theorem xf_Savepoint_init : FnAt (gE x) fi_Savepoint_init (argsOf (clsS 6 0)) (bodyOf (clsS 6 0)) 2 := fnAt_mk (show (kE x.w.params).lookup 127 = some (o91) by kernel_rfl) (len2 fun _ _ => rfl) (by kernel_rfl) (by kernel_rfl)
theorem xmk_Savepoint : MakeOk (gE x) 137 127 := ⟨by kernel_rfl,by kernel_rfl,by kernel_rfl⟩
theorem xf_Savepoint_row : FnAt (gE x) fi_Savepoint_row (argsOf (clsS 6 1)) (bodyOf (clsS 6 1)) 1 := fnAt_mk (show (kE x.w.params).lookup 134 = some (o95) by kernel_rfl) (len1 fun _ => rfl) (by kernel_rfl) (by kernel_rfl)
theorem xm_Savepoint_row : MethOk (gE x) 137 3 134 := ⟨by decide,by kernel_rfl,by kernel_rfl,by kernel_rfl,by kernel_rfl⟩
theorem xf_Release_init : FnAt (gE x) fi_Release_init (argsOf (clsS 7 0)) (bodyOf (clsS 7 0)) 2 := fnAt_mk (show (kE x.w.params).lookup 153 = some (o111) by kernel_rfl) (len2 fun _ _ => rfl) (by kernel_rfl) (by kernel_rfl)
theorem xmk_Release : MakeOk (gE x) 163 153 := ⟨by kernel_rfl,by kernel_rfl,by kernel_rfl⟩
theorem xf_Release_row : FnAt (gE x) fi_Release_row (argsOf (clsS 7 1)) (bodyOf (clsS 7 1)) 1 := fnAt_mk (show (kE x.w.params).lookup 160 = some (o115) by kernel_rfl) (len1 fun _ => rfl) (by kernel_rfl) (by kernel_rfl)
theorem xm_Release_row : MethOk (gE x) 163 3 160 := ⟨by decide,by kernel_rfl,by kernel_rfl,by kernel_rfl,by kernel_rfl⟩
theorem xf_Pragma_init : FnAt (gE x) fi_Pragma_init (argsOf (clsS 8 0)) (bodyOf (clsS 8 0)) 3 := fnAt_mk (show (kE x.w.params).lookup 179 = some (o131) by kernel_rfl) (len3 fun _ _ _ => rfl) (by kernel_rfl) (by kernel_rfl)
theorem xmk_Pragma : MakeOk (gE x) 189 179 := ⟨by kernel_rfl,by kernel_rfl,by kernel_rfl⟩
theorem xf_Pragma_row : FnAt (gE x) fi_Pragma_row (argsOf (clsS 8 1)) (bodyOf (clsS 8 1)) 1 := fnAt_mk (show (kE x.w.params).lookup 186 = some (o135) by kernel_rfl) (len1 fun _ => rfl) (by kernel_rfl) (by kernel_rfl)
theorem xm_Pragma_row : MethOk (gE x) 189 3 186 := ⟨by decide,by kernel_rfl,by kernel_rfl,by kernel_rfl,by kernel_rfl⟩
theorem xf_Vacuum_row : FnAt (gE x) fi_Vacuum_row (argsOf (clsS 9 0)) (bodyOf (clsS 9 0)) 1 := fnAt_mk (show (kE x.w.params).lookup 205 = some (o151) by kernel_rfl) (len1 fun _ => rfl) (by kernel_rfl) (by kernel_rfl)
theorem xm_Vacuum_row : MethOk (gE x) 208 3 205 := ⟨by decide,by kernel_rfl,by kernel_rfl,by kernel_rfl,by kernel_rfl⟩
theorem xf_TransactionReader_init : FnAt (gE x) fi_TransactionReader_init (argsOf (clsS 12 0)) (bodyOf (clsS 12 0)) 2 := fnAt_mk (show (kE x.w.params).lookup 225 = some (o166) by kernel_rfl) (len2 fun _ _ => rfl) (by kernel_rfl) (by kernel_rfl)
theorem xmk_TransactionReader : MakeOk (gE x) 263 225 := ⟨by kernel_rfl,by kernel_rfl,by kernel_rfl⟩
theorem xf_TransactionReader_transaction : FnAt (gE x) fi_TransactionReader_transaction (argsOf (clsS 12 1)) (bodyOf (clsS 12 1)) 1 := fnAt_mk (show (kE x.w.params).lookup 232 = some (o170) by kernel_rfl) (len1 fun _ => rfl) (by kernel_rfl) (by kernel_rfl)
theorem xm_TransactionReader_transaction : MethOk (gE x) 263 22 232 := ⟨by decide,by kernel_rfl,by kernel_rfl,by kernel_rfl,by kernel_rfl⟩
theorem xf_TransactionReader_begin : FnAt (gE x) fi_TransactionReader_begin (argsOf (clsS 12 2)) (bodyOf (clsS 12 2)) 1 := fnAt_mk (show (kE x.w.params).lookup 239 = some (o174) by kernel_rfl) (len1 fun _ => rfl) (by kernel_rfl) (by kernel_rfl)
theorem xm_TransactionReader_begin : MethOk (gE x) 263 23 239 := ⟨by decide,by kernel_rfl,by kernel_rfl,by kernel_rfl,by kernel_rfl⟩
theorem xf_TransactionReader_rollback : FnAt (gE x) fi_TransactionReader_rollback (argsOf (clsS 12 3)) (bodyOf (clsS 12 3)) 1 := fnAt_mk (show (kE x.w.params).lookup 246 = some (o178) by kernel_rfl) (len1 fun _ => rfl) (by kernel_rfl) (by kernel_rfl)
theorem xm_TransactionReader_rollback : MethOk (gE x) 263 24 246 := ⟨by decide,by kernel_rfl,by kernel_rfl,by kernel_rfl,by kernel_rfl⟩
theorem xf_TransactionReader_pragma : FnAt (gE x) fi_TransactionReader_pragma (argsOf (clsS 12 4)) (bodyOf (clsS 12 4)) 1 := fnAt_mk (show (kE x.w.params).lookup 253 = some (o182) by kernel_rfl) (len1 fun _ => rfl) (by kernel_rfl) (by kernel_rfl)
theorem xm_TransactionReader_pragma : MethOk (gE x) 263 25 253 := ⟨by decide,by kernel_rfl,by kernel_rfl,by kernel_rfl,by kernel_rfl⟩
theorem xf_TransactionReader_setting : FnAt (gE x) fi_TransactionReader_setting (argsOf (clsS 12 5)) (bodyOf (clsS 12 5)) 1 := fnAt_mk (show (kE x.w.params).lookup 260 = some (o186) by kernel_rfl) (len1 fun _ => rfl) (by kernel_rfl) (by kernel_rfl)
theorem xm_TransactionReader_setting : MethOk (gE x) 263 26 260 := ⟨by decide,by kernel_rfl,by kernel_rfl,by kernel_rfl,by kernel_rfl⟩
theorem xf_ParseError_init : FnAt (gE x) fi_ParseError_init (argsOf (clsS 16 0)) (bodyOf (clsS 16 0)) 3 := fnAt_mk (show (kE x.w.params).lookup 313 = some (o234) by kernel_rfl) (len3 fun _ _ _ => rfl) (by kernel_rfl) (by kernel_rfl)
theorem xf_folded : FnAt (gE x) fi_folded (argsOf (topS 31)) (bodyOf (topS 31)) 1 := fnAt_mk (show (kE x.w.params).lookup 327 = some (o248) by kernel_rfl) (len1 fun _ => rfl) (by kernel_rfl) (by kernel_rfl)
theorem xf_begins_name : FnAt (gE x) fi_begins_name (argsOf (topS 32)) (bodyOf (topS 32)) 1 := fnAt_mk (show (kE x.w.params).lookup 334 = some (o252) by kernel_rfl) (len1 fun _ => rfl) (by kernel_rfl) (by kernel_rfl)
theorem xf_goes_on_name : FnAt (gE x) fi_goes_on_name (argsOf (topS 33)) (bodyOf (topS 33)) 1 := fnAt_mk (show (kE x.w.params).lookup 341 = some (o256) by kernel_rfl) (len1 fun _ => rfl) (by kernel_rfl) (by kernel_rfl)
theorem xf_Word_init : FnAt (gE x) fi_Word_init (argsOf (clsS 34 0)) (bodyOf (clsS 34 0)) 5 := fnAt_mk (show (kE x.w.params).lookup 355 = some (o266) by kernel_rfl) (len5 fun _ _ _ _ _ => rfl) (by kernel_rfl) (by kernel_rfl)
theorem xmk_Word : MakeOk (gE x) 393 355 := ⟨by kernel_rfl,by kernel_rfl,by kernel_rfl⟩
theorem xf_Word_is_sign : FnAt (gE x) fi_Word_is_sign (argsOf (clsS 34 1)) (bodyOf (clsS 34 1)) 2 := fnAt_mk (show (kE x.w.params).lookup 362 = some (o270) by kernel_rfl) (len2 fun _ _ => rfl) (by kernel_rfl) (by kernel_rfl)
theorem xm_Word_is_sign : MethOk (gE x) 393 0 362 := ⟨by decide,by kernel_rfl,by kernel_rfl,by kernel_rfl,by kernel_rfl⟩
theorem xf_Word_is_key : FnAt (gE x) fi_Word_is_key (argsOf (clsS 34 2)) (bodyOf (clsS 34 2)) 2 := fnAt_mk (show (kE x.w.params).lookup 369 = some (o274) by kernel_rfl) (len2 fun _ _ => rfl) (by kernel_rfl) (by kernel_rfl)
theorem xm_Word_is_key : MethOk (gE x) 393 1 369 := ⟨by decide,by kernel_rfl,by kernel_rfl,by kernel_rfl,by kernel_rfl⟩
theorem xf_Word_is_free : FnAt (gE x) fi_Word_is_free (argsOf (clsS 34 3)) (bodyOf (clsS 34 3)) 1 := fnAt_mk (show (kE x.w.params).lookup 376 = some (o278) by kernel_rfl) (len1 fun _ => rfl) (by kernel_rfl) (by kernel_rfl)
theorem xm_Word_is_free : MethOk (gE x) 393 2 376 := ⟨by decide,by kernel_rfl,by kernel_rfl,by kernel_rfl,by kernel_rfl⟩
theorem xf_Scanner_init : FnAt (gE x) fi_Scanner_init (argsOf (clsS 35 0)) (bodyOf (clsS 35 0)) 2 := fnAt_mk (show (kE x.w.params).lookup 411 = some (o303) by kernel_rfl) (len2 fun _ _ => rfl) (by kernel_rfl) (by kernel_rfl)
theorem xmk_Scanner : MakeOk (gE x) 498 411 := ⟨by kernel_rfl,by kernel_rfl,by kernel_rfl⟩
theorem xf_Scanner_gather : FnAt (gE x) fi_Scanner_gather (argsOf (clsS 35 1)) (bodyOf (clsS 35 1)) 5 := fnAt_mk (show (kE x.w.params).lookup 418 = some (o307) by kernel_rfl) (len5 fun _ _ _ _ _ => rfl) (by kernel_rfl) (by kernel_rfl)
theorem xm_Scanner_gather : MethOk (gE x) 498 4 418 := ⟨by decide,by kernel_rfl,by kernel_rfl,by kernel_rfl,by kernel_rfl⟩
theorem xf_Scanner_run : FnAt (gE x) fi_Scanner_run (argsOf (clsS 35 3)) (bodyOf (clsS 35 3)) 1 := fnAt_mk (show (kE x.w.params).lookup 432 = some (o315) by kernel_rfl) (len1 fun _ => rfl) (by kernel_rfl) (by kernel_rfl)
theorem xm_Scanner_run : MethOk (gE x) 498 6 432 := ⟨by decide,by kernel_rfl,by kernel_rfl,by kernel_rfl,by kernel_rfl⟩
theorem xf_Scanner_end_of : FnAt (gE x) fi_Scanner_end_of (argsOf (clsS 35 4)) (bodyOf (clsS 35 4)) 3 := fnAt_mk (show (kE x.w.params).lookup 439 = some (o319) by kernel_rfl) (len3 fun _ _ _ => rfl) (by kernel_rfl) (by kernel_rfl)
theorem xm_Scanner_end_of : MethOk (gE x) 498 7 439 := ⟨by decide,by kernel_rfl,by kernel_rfl,by kernel_rfl,by kernel_rfl⟩
theorem xf_Scanner_bare : FnAt (gE x) fi_Scanner_bare (argsOf (clsS 35 5)) (bodyOf (clsS 35 5)) 2 := fnAt_mk (show (kE x.w.params).lookup 446 = some (o323) by kernel_rfl) (len2 fun _ _ => rfl) (by kernel_rfl) (by kernel_rfl)
theorem xm_Scanner_bare : MethOk (gE x) 498 8 446 := ⟨by decide,by kernel_rfl,by kernel_rfl,by kernel_rfl,by kernel_rfl⟩
theorem xf_Scanner_closing : FnAt (gE x) fi_Scanner_closing (argsOf (clsS 35 6)) (bodyOf (clsS 35 6)) 3 := fnAt_mk (show (kE x.w.params).lookup 453 = some (o327) by kernel_rfl) (len3 fun _ _ _ => rfl) (by kernel_rfl) (by kernel_rfl)
theorem xm_Scanner_closing : MethOk (gE x) 498 9 453 := ⟨by decide,by kernel_rfl,by kernel_rfl,by kernel_rfl,by kernel_rfl⟩
theorem xf_Scanner_quoted_word : FnAt (gE x) fi_Scanner_quoted_word (argsOf (clsS 35 7)) (bodyOf (clsS 35 7)) 2 := fnAt_mk (show (kE x.w.params).lookup 460 = some (o331) by kernel_rfl) (len2 fun _ _ => rfl) (by kernel_rfl) (by kernel_rfl)
theorem xm_Scanner_quoted_word : MethOk (gE x) 498 10 460 := ⟨by decide,by kernel_rfl,by kernel_rfl,by kernel_rfl,by kernel_rfl⟩
theorem xf_Scanner_number : FnAt (gE x) fi_Scanner_number (argsOf (clsS 35 9)) (bodyOf (clsS 35 9)) 1 := fnAt_mk (show (kE x.w.params).lookup 474 = some (o339) by kernel_rfl) (len1 fun _ => rfl) (by kernel_rfl) (by kernel_rfl)
theorem xm_Scanner_number : MethOk (gE x) 498 11 474 := ⟨by decide,by kernel_rfl,by kernel_rfl,by kernel_rfl,by kernel_rfl⟩
theorem xf_Scanner_value_of : FnAt (gE x) fi_Scanner_value_of (argsOf (clsS 35 10)) (bodyOf (clsS 35 10)) 4 := fnAt_mk (show (kE x.w.params).lookup 481 = some (o343) by kernel_rfl) (len4 fun _ _ _ _ => rfl) (by kernel_rfl) (by kernel_rfl)
theorem xm_Scanner_value_of : MethOk (gE x) 498 12 481 := ⟨by decide,by kernel_rfl,by kernel_rfl,by kernel_rfl,by kernel_rfl⟩
theorem xf_Scanner_mark : FnAt (gE x) fi_Scanner_mark (argsOf (clsS 35 11)) (bodyOf (clsS 35 11)) 2 := fnAt_mk (show (kE x.w.params).lookup 488 = some (o347) by kernel_rfl) (len2 fun _ _ => rfl) (by kernel_rfl) (by kernel_rfl)
theorem xm_Scanner_mark : MethOk (gE x) 498 13 488 := ⟨by decide,by kernel_rfl,by kernel_rfl,by kernel_rfl,by kernel_rfl⟩
theorem xf_read_words : FnAt (gE x) fi_read_words (argsOf (topS 36)) (bodyOf (topS 36)) 1 := fnAt_mk (show (kE x.w.params).lookup 509 = some (o364) by kernel_rfl) (len1 fun _ => rfl) (by kernel_rfl) (by kernel_rfl)
theorem xf_is_bare : FnAt (gE x) fi_is_bare (argsOf (topS 39)) (bodyOf (topS 39)) 1 := fnAt_mk (show (kE x.w.params).lookup 517 = some (o369) by kernel_rfl) (len1 fun _ => rfl) (by kernel_rfl) (by kernel_rfl)
theorem xf_write_name : FnAt (gE x) fi_write_name (argsOf (topS 40)) (bodyOf (topS 40)) 1 := fnAt_mk (show (kE x.w.params).lookup 524 = some (o373) by kernel_rfl) (len1 fun _ => rfl) (by kernel_rfl) (by kernel_rfl)
theorem xf_write_value : FnAt (gE x) fi_write_value (argsOf (topS 41)) (bodyOf (topS 41)) 1 := fnAt_mk (show (kE x.w.params).lookup 531 = some (o377) by kernel_rfl) (len1 fun _ => rfl) (by kernel_rfl) (by kernel_rfl)
theorem xf_write_transaction : FnAt (gE x) fi_write_transaction (argsOf (topS 43)) (bodyOf (topS 43)) 1 := fnAt_mk (show (kE x.w.params).lookup 538 = some (o381) by kernel_rfl) (len1 fun _ => rfl) (by kernel_rfl) (by kernel_rfl)
theorem xf_WordStream_init : FnAt (gE x) fi_WordStream_init (argsOf (clsS 45 0)) (bodyOf (clsS 45 0)) 2 := fnAt_mk (show (kE x.w.params).lookup 552 = some (o391) by kernel_rfl) (len2 fun _ _ => rfl) (by kernel_rfl) (by kernel_rfl)
theorem xmk_WordStream : MakeOk (gE x) 667 552 := ⟨by kernel_rfl,by kernel_rfl,by kernel_rfl⟩
theorem xf_WordStream_here : FnAt (gE x) fi_WordStream_here (argsOf (clsS 45 1)) (bodyOf (clsS 45 1)) 1 := fnAt_mk (show (kE x.w.params).lookup 559 = some (o395) by kernel_rfl) (len1 fun _ => rfl) (by kernel_rfl) (by kernel_rfl)
theorem xm_WordStream_here : MethOk (gE x) 667 14 559 := ⟨by decide,by kernel_rfl,by kernel_rfl,by kernel_rfl,by kernel_rfl⟩
theorem xf_WordStream_go : FnAt (gE x) fi_WordStream_go (argsOf (clsS 45 3)) (bodyOf (clsS 45 3)) 1 := fnAt_mk (show (kE x.w.params).lookup 573 = some (o403) by kernel_rfl) (len1 fun _ => rfl) (by kernel_rfl) (by kernel_rfl)
theorem xm_WordStream_go : MethOk (gE x) 667 15 573 := ⟨by decide,by kernel_rfl,by kernel_rfl,by kernel_rfl,by kernel_rfl⟩
theorem xf_WordStream_refuse : FnAt (gE x) fi_WordStream_refuse (argsOf (clsS 45 4)) (bodyOf (clsS 45 4)) 2 := fnAt_mk (show (kE x.w.params).lookup 580 = some (o407) by kernel_rfl) (len2 fun _ _ => rfl) (by kernel_rfl) (by kernel_rfl)
theorem xm_WordStream_refuse : MethOk (gE x) 667 5 580 := ⟨by decide,by kernel_rfl,by kernel_rfl,by kernel_rfl,by kernel_rfl⟩
theorem xf_WordStream_is_over : FnAt (gE x) fi_WordStream_is_over (argsOf (clsS 45 5)) (bodyOf (clsS 45 5)) 1 := fnAt_mk (show (kE x.w.params).lookup 587 = some (o411) by kernel_rfl) (len1 fun _ => rfl) (by kernel_rfl) (by kernel_rfl)
theorem xm_WordStream_is_over : MethOk (gE x) 667 16 587 := ⟨by decide,by kernel_rfl,by kernel_rfl,by kernel_rfl,by kernel_rfl⟩
theorem xf_WordStream_is_one_of : FnAt (gE x) fi_WordStream_is_one_of (argsOf (clsS 45 8)) (bodyOf (clsS 45 8)) 2 := fnAt_mk (show (kE x.w.params).lookup 608 = some (o423) by kernel_rfl) (len2 fun _ _ => rfl) (by kernel_rfl) (by kernel_rfl)
theorem xm_WordStream_is_one_of : MethOk (gE x) 667 17 608 := ⟨by decide,by kernel_rfl,by kernel_rfl,by kernel_rfl,by kernel_rfl⟩
theorem xf_WordStream_take_key : FnAt (gE x) fi_WordStream_take_key (argsOf (clsS 45 10)) (bodyOf (clsS 45 10)) 2 := fnAt_mk (show (kE x.w.params).lookup 622 = some (o431) by kernel_rfl) (len2 fun _ _ => rfl) (by kernel_rfl) (by kernel_rfl)
theorem xm_WordStream_take_key : MethOk (gE x) 667 18 622 := ⟨by decide,by kernel_rfl,by kernel_rfl,by kernel_rfl,by kernel_rfl⟩
theorem xf_WordStream_take_sign : FnAt (gE x) fi_WordStream_take_sign (argsOf (clsS 45 11)) (bodyOf (clsS 45 11)) 2 := fnAt_mk (show (kE x.w.params).lookup 629 = some (o435) by kernel_rfl) (len2 fun _ _ => rfl) (by kernel_rfl) (by kernel_rfl)
theorem xm_WordStream_take_sign : MethOk (gE x) 667 19 629 := ⟨by decide,by kernel_rfl,by kernel_rfl,by kernel_rfl,by kernel_rfl⟩
theorem xf_WordStream_need_sign : FnAt (gE x) fi_WordStream_need_sign (argsOf (clsS 45 13)) (bodyOf (clsS 45 13)) 2 := fnAt_mk (show (kE x.w.params).lookup 643 = some (o443) by kernel_rfl) (len2 fun _ _ => rfl) (by kernel_rfl) (by kernel_rfl)
theorem xm_WordStream_need_sign : MethOk (gE x) 667 20 643 := ⟨by decide,by kernel_rfl,by kernel_rfl,by kernel_rfl,by kernel_rfl⟩
theorem xf_WordStream_need_name : FnAt (gE x) fi_WordStream_need_name (argsOf (clsS 45 14)) (bodyOf (clsS 45 14)) 1 := fnAt_mk (show (kE x.w.params).lookup 650 = some (o447) by kernel_rfl) (len1 fun _ => rfl) (by kernel_rfl) (by kernel_rfl)
theorem xm_WordStream_need_name : MethOk (gE x) 667 21 650 := ⟨by decide,by kernel_rfl,by kernel_rfl,by kernel_rfl,by kernel_rfl⟩
theorem xf__law_pool : FnAt (gE x) fi__law_pool (argsOf (topS 47)) (bodyOf (topS 47)) 2 := fnAt_mk (show (kE x.w.params).lookup 678 = some (o468) by kernel_rfl) (len2 fun _ _ => rfl) (by kernel_rfl) (by kernel_rfl)
theorem xf__law_take : FnAt (gE x) fi__law_take (argsOf (topS 48)) (bodyOf (topS 48)) 2 := fnAt_mk (show (kE x.w.params).lookup 685 = some (o472) by kernel_rfl) (len2 fun _ _ => rfl) (by kernel_rfl) (by kernel_rfl)
theorem xf__law_one : FnAt (gE x) fi__law_one (argsOf (topS 49)) (bodyOf (topS 49)) 2 := fnAt_mk (show (kE x.w.params).lookup 692 = some (o476) by kernel_rfl) (len2 fun _ _ => rfl) (by kernel_rfl) (by kernel_rfl)
theorem xf__law_called : FnAt (gE x) fi__law_called (argsOf (topS 50)) (bodyOf (topS 50)) 1 := fnAt_mk (show (kE x.w.params).lookup 699 = some (o480) by kernel_rfl) (len1 fun _ => rfl) (by kernel_rfl) (by kernel_rfl)
theorem xf__law_worth : FnAt (gE x) fi__law_worth (argsOf (topS 51)) (bodyOf (topS 51)) 1 := fnAt_mk (show (kE x.w.params).lookup 706 = some (o484) by kernel_rfl) (len1 fun _ => rfl) (by kernel_rfl) (by kernel_rfl)
theorem xf__law_begin : FnAt (gE x) fi__law_begin (argsOf (topS 52)) (bodyOf (topS 52)) 1 := fnAt_mk (show (kE x.w.params).lookup 713 = some (o488) by kernel_rfl) (len1 fun _ => rfl) (by kernel_rfl) (by kernel_rfl)
theorem xf__law_statement : FnAt (gE x) fi__law_statement (argsOf (topS 53)) (bodyOf (topS 53)) 1 := fnAt_mk (show (kE x.w.params).lookup 720 = some (o492) by kernel_rfl) (len1 fun _ => rfl) (by kernel_rfl) (by kernel_rfl)
theorem xf__law_read : FnAt (gE x) fi__law_read (argsOf (topS 54)) (bodyOf (topS 54)) 1 := fnAt_mk (show (kE x.w.params).lookup 727 = some (o496) by kernel_rfl) (len1 fun _ => rfl) (by kernel_rfl) (by kernel_rfl)
theorem xf__law_is_refused : FnAt (gE x) fi__law_is_refused (argsOf (topS 55)) (bodyOf (topS 55)) 1 := fnAt_mk (show (kE x.w.params).lookup 734 = some (o500) by kernel_rfl) (len1 fun _ => rfl) (by kernel_rfl) (by kernel_rfl)
theorem xmk_Commit : makesIn (gE x).K 85 = true := by kernel_rfl
theorem xmi_Commit : findIn (gE x).K (.ref 85) "__init__" = some (some (.builtin "object.__init__")) := by kernel_rfl
theorem xmk_Vacuum : makesIn (gE x).K 208 = true := by kernel_rfl
theorem xmi_Vacuum : findIn (gE x).K (.ref 208) "__init__" = some (some (.builtin "object.__init__")) := by kernel_rfl
theorem xg_Begin : nsIn (gE x).K mainGlobals "Begin" = some (some (.ref 66)) := by kernel_rfl
theorem xk_Begin : keepIn (gE x).K (.ref 66) = true := by kernel_rfl
theorem xg_Commit : nsIn (gE x).K mainGlobals "Commit" = some (some (.ref 85)) := by kernel_rfl
theorem xk_Commit : keepIn (gE x).K (.ref 85) = true := by kernel_rfl
theorem xg_Rollback : nsIn (gE x).K mainGlobals "Rollback" = some (some (.ref 111)) := by kernel_rfl
theorem xk_Rollback : keepIn (gE x).K (.ref 111) = true := by kernel_rfl
theorem xg_Savepoint : nsIn (gE x).K mainGlobals "Savepoint" = some (some (.ref 137)) := by kernel_rfl
theorem xk_Savepoint : keepIn (gE x).K (.ref 137) = true := by kernel_rfl
theorem xg_Release : nsIn (gE x).K mainGlobals "Release" = some (some (.ref 163)) := by kernel_rfl
theorem xk_Release : keepIn (gE x).K (.ref 163) = true := by kernel_rfl
theorem xg_Pragma : nsIn (gE x).K mainGlobals "Pragma" = some (some (.ref 189)) := by kernel_rfl
theorem xk_Pragma : keepIn (gE x).K (.ref 189) = true := by kernel_rfl
theorem xg_Vacuum : nsIn (gE x).K mainGlobals "Vacuum" = some (some (.ref 208)) := by kernel_rfl
theorem xk_Vacuum : keepIn (gE x).K (.ref 208) = true := by kernel_rfl
theorem xg_BEGIN_KINDS : nsIn (gE x).K mainGlobals "BEGIN_KINDS" = some (some (.ref 211)) := by kernel_rfl
theorem xt_BEGIN_KINDS : TopTup (gE x) 211 l_BEGIN_KINDS := ⟨seqOf (o156),_,_,_,(show (kE x.w.params).lookup 211 = some (o156) by kernel_rfl),strsAre_of (by kernel_rfl)⟩
theorem xg_TransactionReader : nsIn (gE x).K mainGlobals "TransactionReader" = some (some (.ref 263)) := by kernel_rfl
theorem xk_TransactionReader : keepIn (gE x).K (.ref 263) = true := by kernel_rfl
theorem xg_ParseError : nsIn (gE x).K mainGlobals "ParseError" = some (some (.ref 316)) := by kernel_rfl
theorem xk_ParseError : keepIn (gE x).K (.ref 316) = true := by kernel_rfl
theorem xg_QUOTES : nsIn (gE x).K mainGlobals "QUOTES" = some (some (.str "'\"`[" 581)) := by kernel_rfl
theorem xg_BLANKS : nsIn (gE x).K mainGlobals "BLANKS" = some (some (.str " \t\n\x0d\x0c" 583)) := by kernel_rfl
theorem xg_FIGURES : nsIn (gE x).K mainGlobals "FIGURES" = some (some (.str "0123456789" 585)) := by kernel_rfl
theorem xg_LETTERS : nsIn (gE x).K mainGlobals "LETTERS" = some (some (.str "abcdefghijklmnopqrstuvwxyzABCDEFGHIJKLMNOPQRSTUVWXYZ_" 589)) := by kernel_rfl
theorem xg_NAME_SIGNS : nsIn (gE x).K mainGlobals "NAME_SIGNS" = some (some (.str "abcdefghijklmnopqrstuvwxyzABCDEFGHIJKLMNOPQRSTUVWXYZ_0123456789$" 593)) := by kernel_rfl
theorem xg_SIGNS_OF_TWO : nsIn (gE x).K mainGlobals "SIGNS_OF_TWO" = some (some (.ref 319)) := by kernel_rfl
theorem xt_SIGNS_OF_TWO : TopTup (gE x) 319 l_SIGNS_OF_TWO := ⟨seqOf (o240),_,_,_,(show (kE x.w.params).lookup 319 = some (o240) by kernel_rfl),strsAre_of (by kernel_rfl)⟩
theorem xg_SIGNS_OF_ONE : nsIn (gE x).K mainGlobals "SIGNS_OF_ONE" = some (some (.str "(),.;+-*/%=<>&|~" 604)) := by kernel_rfl
theorem xg_GREATEST : nsIn (gE x).K mainGlobals "GREATEST" = some (some (.int 9223372036854775808 617)) := by kernel_rfl
theorem xg_RESERVED : nsIn (gE x).K mainGlobals "RESERVED" = some (some (.ref 321)) := by kernel_rfl
theorem xt_RESERVED : TopTup (gE x) 321 l_RESERVED := ⟨seqOf (o244),_,_,_,(show (kE x.w.params).lookup 321 = some (o244) by kernel_rfl),strsAre_of (by kernel_rfl)⟩
theorem xg_JOINING : nsIn (gE x).K mainGlobals "JOINING" = some (some (.ref 322)) := by kernel_rfl
theorem xt_JOINING : TopTup (gE x) 322 l_JOINING := ⟨seqOf (o245),_,_,_,(show (kE x.w.params).lookup 322 = some (o245) by kernel_rfl),strsAre_of (by kernel_rfl)⟩
theorem xg_folded : nsIn (gE x).K mainGlobals "folded" = some (some (.ref 327)) := by kernel_rfl
theorem xk_folded : keepIn (gE x).K (.ref 327) = true := by kernel_rfl
theorem xg_begins_name : nsIn (gE x).K mainGlobals "begins_name" = some (some (.ref 334)) := by kernel_rfl
theorem xk_begins_name : keepIn (gE x).K (.ref 334) = true := by kernel_rfl
theorem xg_goes_on_name : nsIn (gE x).K mainGlobals "goes_on_name" = some (some (.ref 341)) := by kernel_rfl
theorem xk_goes_on_name : keepIn (gE x).K (.ref 341) = true := by kernel_rfl
theorem xg_Word : nsIn (gE x).K mainGlobals "Word" = some (some (.ref 393)) := by kernel_rfl
theorem xk_Word : keepIn (gE x).K (.ref 393) = true := by kernel_rfl
theorem xg_Scanner : nsIn (gE x).K mainGlobals "Scanner" = some (some (.ref 498)) := by kernel_rfl
theorem xk_Scanner : keepIn (gE x).K (.ref 498) = true := by kernel_rfl
theorem xg_read_words : nsIn (gE x).K mainGlobals "read_words" = some (some (.ref 509)) := by kernel_rfl
theorem xk_read_words : keepIn (gE x).K (.ref 509) = true := by kernel_rfl
theorem xg_QUOTED_ALWAYS : nsIn (gE x).K mainGlobals "QUOTED_ALWAYS" = some (some (.ref 510)) := by kernel_rfl
theorem xt_QUOTED_ALWAYS : TopTup (gE x) 510 l_QUOTED_ALWAYS := ⟨seqOf (o365),_,_,_,(show (kE x.w.params).lookup 510 = some (o365) by kernel_rfl),strsAre_of (by kernel_rfl)⟩
theorem xg_is_bare : nsIn (gE x).K mainGlobals "is_bare" = some (some (.ref 517)) := by kernel_rfl
theorem xk_is_bare : keepIn (gE x).K (.ref 517) = true := by kernel_rfl
theorem xg_write_name : nsIn (gE x).K mainGlobals "write_name" = some (some (.ref 524)) := by kernel_rfl
theorem xk_write_name : keepIn (gE x).K (.ref 524) = true := by kernel_rfl
theorem xg_write_value : nsIn (gE x).K mainGlobals "write_value" = some (some (.ref 531)) := by kernel_rfl
theorem xk_write_value : keepIn (gE x).K (.ref 531) = true := by kernel_rfl
theorem xg_write_transaction : nsIn (gE x).K mainGlobals "write_transaction" = some (some (.ref 538)) := by kernel_rfl
theorem xk_write_transaction : keepIn (gE x).K (.ref 538) = true := by kernel_rfl
theorem xg_WordStream : nsIn (gE x).K mainGlobals "WordStream" = some (some (.ref 667)) := by kernel_rfl
theorem xk_WordStream : keepIn (gE x).K (.ref 667) = true := by kernel_rfl
theorem xg__law_pool : nsIn (gE x).K mainGlobals "_law_pool" = some (some (.ref 678)) := by kernel_rfl
theorem xk__law_pool : keepIn (gE x).K (.ref 678) = true := by kernel_rfl
theorem xg__law_take : nsIn (gE x).K mainGlobals "_law_take" = some (some (.ref 685)) := by kernel_rfl
theorem xk__law_take : keepIn (gE x).K (.ref 685) = true := by kernel_rfl
theorem xg__law_one : nsIn (gE x).K mainGlobals "_law_one" = some (some (.ref 692)) := by kernel_rfl
theorem xk__law_one : keepIn (gE x).K (.ref 692) = true := by kernel_rfl
theorem xg__law_called : nsIn (gE x).K mainGlobals "_law_called" = some (some (.ref 699)) := by kernel_rfl
theorem xk__law_called : keepIn (gE x).K (.ref 699) = true := by kernel_rfl
theorem xg__law_worth : nsIn (gE x).K mainGlobals "_law_worth" = some (some (.ref 706)) := by kernel_rfl
theorem xk__law_worth : keepIn (gE x).K (.ref 706) = true := by kernel_rfl
theorem xg__law_begin : nsIn (gE x).K mainGlobals "_law_begin" = some (some (.ref 713)) := by kernel_rfl
theorem xk__law_begin : keepIn (gE x).K (.ref 713) = true := by kernel_rfl
theorem xg__law_statement : nsIn (gE x).K mainGlobals "_law_statement" = some (some (.ref 720)) := by kernel_rfl
theorem xk__law_statement : keepIn (gE x).K (.ref 720) = true := by kernel_rfl
theorem xg__law_read : nsIn (gE x).K mainGlobals "_law_read" = some (some (.ref 727)) := by kernel_rfl
theorem xk__law_read : keepIn (gE x).K (.ref 727) = true := by kernel_rfl
theorem xg__law_is_refused : nsIn (gE x).K mainGlobals "_law_is_refused" = some (some (.ref 734)) := by kernel_rfl
theorem xk__law_is_refused : keepIn (gE x).K (.ref 734) = true := by kernel_rfl
theorem xg_law : nsIn (gE x).K mainGlobals "law" = some (some (.ref 739)) := by kernel_rfl
theorem xk_law : keepIn (gE x).K (.ref 739) = true := by kernel_rfl
theorem xb_int : nsIn (gE x).K mainGlobals "int" = some none := by kernel_rfl
theorem xb_isinstance : nsIn (gE x).K mainGlobals "isinstance" = some none := by kernel_rfl
theorem xb_len : nsIn (gE x).K mainGlobals "len" = some none := by kernel_rfl
theorem xb_max : nsIn (gE x).K mainGlobals "max" = some none := by kernel_rfl
theorem xb_min : nsIn (gE x).K mainGlobals "min" = some none := by kernel_rfl
theorem xb_ord : nsIn (gE x).K mainGlobals "ord" = some none := by kernel_rfl
theorem xb_range : nsIn (gE x).K mainGlobals "range" = some none := by kernel_rfl
theorem xb_str : nsIn (gE x).K mainGlobals "str" = some none := by kernel_rfl
theorem facts (hns : x.ns.length ≤ 63) : Facts (gE x) := ⟨f_KO x,f_IO x,f_XO x,xkts x,hns,xf_Begin_init x,xmk_Begin x,xf_Begin_row x,xm_Begin_row x,xf_Commit_row x,xm_Commit_row x,xf_Rollback_init x,xmk_Rollback x,xf_Rollback_row x,xm_Rollback_row x,xf_Savepoint_init x,xmk_Savepoint x,xf_Savepoint_row x,xm_Savepoint_row x,xf_Release_init x,xmk_Release x,xf_Release_row x,xm_Release_row x,xf_Pragma_init x,xmk_Pragma x,xf_Pragma_row x,xm_Pragma_row x,xf_Vacuum_row x,xm_Vacuum_row x,xf_TransactionReader_init x,xmk_TransactionReader x,xf_TransactionReader_transaction x,xm_TransactionReader_transaction x,xf_TransactionReader_begin x,xm_TransactionReader_begin x,xf_TransactionReader_rollback x,xm_TransactionReader_rollback x,xf_TransactionReader_pragma x,xm_TransactionReader_pragma x,xf_TransactionReader_setting x,xm_TransactionReader_setting x,xf_ParseError_init x,xf_folded x,xf_begins_name x,xf_goes_on_name x,xf_Word_init x,xmk_Word x,xf_Word_is_sign x,xm_Word_is_sign x,xf_Word_is_key x,xm_Word_is_key x,xf_Word_is_free x,xm_Word_is_free x,xf_Scanner_init x,xmk_Scanner x,xf_Scanner_gather x,xm_Scanner_gather x,xf_Scanner_run x,xm_Scanner_run x,xf_Scanner_end_of x,xm_Scanner_end_of x,xf_Scanner_bare x,xm_Scanner_bare x,xf_Scanner_closing x,xm_Scanner_closing x,xf_Scanner_quoted_word x,xm_Scanner_quoted_word x,xf_Scanner_number x,xm_Scanner_number x,xf_Scanner_value_of x,xm_Scanner_value_of x,xf_Scanner_mark x,xm_Scanner_mark x,xf_read_words x,xf_is_bare x,xf_write_name x,xf_write_value x,xf_write_transaction x,xf_WordStream_init x,xmk_WordStream x,xf_WordStream_here x,xm_WordStream_here x,xf_WordStream_go x,xm_WordStream_go x,xf_WordStream_refuse x,xm_WordStream_refuse x,xf_WordStream_is_over x,xm_WordStream_is_over x,xf_WordStream_is_one_of x,xm_WordStream_is_one_of x,xf_WordStream_take_key x,xm_WordStream_take_key x,xf_WordStream_take_sign x,xm_WordStream_take_sign x,xf_WordStream_need_sign x,xm_WordStream_need_sign x,xf_WordStream_need_name x,xm_WordStream_need_name x,xf__law_pool x,xf__law_take x,xf__law_one x,xf__law_called x,xf__law_worth x,xf__law_begin x,xf__law_statement x,xf__law_read x,xf__law_is_refused x,trivial,xmk_Commit x,xmi_Commit x,xmk_Vacuum x,xmi_Vacuum x,xg_Begin x,xk_Begin x,xg_Commit x,xk_Commit x,xg_Rollback x,xk_Rollback x,xg_Savepoint x,xk_Savepoint x,xg_Release x,xk_Release x,xg_Pragma x,xk_Pragma x,xg_Vacuum x,xk_Vacuum x,xg_BEGIN_KINDS x,xt_BEGIN_KINDS x,xg_TransactionReader x,xk_TransactionReader x,xg_ParseError x,xk_ParseError x,xg_QUOTES x,xg_BLANKS x,xg_FIGURES x,xg_LETTERS x,xg_NAME_SIGNS x,xg_SIGNS_OF_TWO x,xt_SIGNS_OF_TWO x,xg_SIGNS_OF_ONE x,xg_GREATEST x,xg_RESERVED x,xt_RESERVED x,xg_JOINING x,xt_JOINING x,xg_folded x,xk_folded x,xg_begins_name x,xk_begins_name x,xg_goes_on_name x,xk_goes_on_name x,xg_Word x,xk_Word x,xg_Scanner x,xk_Scanner x,xg_read_words x,xk_read_words x,xg_QUOTED_ALWAYS x,xt_QUOTED_ALWAYS x,xg_is_bare x,xk_is_bare x,xg_write_name x,xk_write_name x,xg_write_value x,xk_write_value x,xg_write_transaction x,xk_write_transaction x,xg_WordStream x,xk_WordStream x,xg__law_pool x,xk__law_pool x,xg__law_take x,xk__law_take x,xg__law_one x,xk__law_one x,xg__law_called x,xk__law_called x,xg__law_worth x,xk__law_worth x,xg__law_begin x,xk__law_begin x,xg__law_statement x,xk__law_statement x,xg__law_read x,xk__law_read x,xg__law_is_refused x,xk__law_is_refused x,xg_law x,xk_law x,xb_int x,xb_isinstance x,xb_len x,xb_max x,xb_min x,xb_ord x,xb_range x,xb_str x⟩
end
theorem hd_left : LeftO pP viewE looseE (fun s => xlAt viewE lvE s && recOk [] s) hookE.obs hookE.val 11852 :=
  LeftO.of_pieces (H₀ := boot_heap) (H₁ := heapF) (gs₀ := Array.mk []) (gs₁ := Array.mk []) (d₀ := boot_drawn) (d₁ := drE) (k₀ := boot_toks) (k₁ := 1254) (m₀ := 11) (ann := annE) (M := hdM) hd_open hd_size (fun w os => hd_run w os) (by decide +kernel) hd_looks
noncomputable def cdOf (o : Obj) : Value := match o.data with
  | .func f => f.code
  | _ => .none
theorem glue {w : World} {mean : ExcName → Option Value} {mg mb : Str → Option Value} {H : Heap} {sa : Addr} {vs : List Value} {ns : List Int} {m : Str → Option Value} {s : Shared} {Qc : Flow → Shared → Prop} {Ec : Value → Shared → Prop}
    (gx : ∀ x,InSt x → GoodX x) (gw : ∀ t ∈ wrongL,ReadOk t .none)
    (KX : (kE w.params).In H) (T : Top viewE (looseW viewE looseE) mean mg mb H) (hL : H.IsList sa vs.toArray) (hI : IntsAre vs ns) (hlen : ¬ ((63 : Nat) : Int) < (ns.length : Nat)) (K0 : Below callerA H [] H)
    (F : Fr H H.objs.size s.heap m) (hm : m "script" = some (.ref sa)) (tk : 0 < s.toks)
    (hQ : ∀ h' tk' m',Fr H H.objs.size h' m' → Qc (.ret (.bool true)) { s with heap := h',toks := tk' }) :
    wpAny (model pP w) (callerA.deeper (fi_law.env H.objs.size)) (execs (bodyOf (topS 56)) (fi_law.env H.objs.size)) Qc Ec s := by
  have FA := facts ⟨pP,w,[],viewE,looseW viewE looseE,mean,mg,mb,sa,ns⟩ (show ns.length ≤ 63 by omega)
  refine law_ts FA gx gw (callerA.deeper (fi_law.env H.objs.size)) [] H H H.objs.size m [] [] [] s Qc Ec ?_ F ?_ ?_ tk (fun _ _ _ _ _ _ _ _ _ _ _ _ _ z => z.elim) (fun v b μ' cs' im' h' tk' m' F' D' t' sb pr hr hb => ?_) EXPT.no
  · exact ⟨rfl,rfl,(show callerA.depth + 1 + 4 * 12 < 990 by decide),(show callerA.units + 3 + 20 * 12 < 9000 by decide),⟨callerA,K0⟩,KX,T,fun _ => rfl,⟨vs,hL,hI⟩,KX,T⟩
  · intro i x av h1 h2
    cases i with
    | zero =>
      cases h1
      cases h2
      exact ⟨_,hm,rfl⟩
    | succ i =>
      exfalso
      have h2 : (([some (AV.pv PV.scr)] : Loc) ++ List.replicate 20 none)[i + 1]? = some (some av) := h2
      rw [List.getElem?_append_right (by simp),List.getElem?_replicate] at h2
      split at h2 <;> cases h2
  · exact ⟨fun _ h => (nomatch h),List.nodup_nil,fun _ h => (nomatch h),fun _ h => (nomatch h),rfl⟩
  · subst hb
    cases hr
    exact hQ h' tk' m' F'
theorem law_in (P : Params) : nsIn (kE P) mainGlobals "law" = some (some (.ref 739)) := by kernel_rfl
theorem law_at (P : Params) : ((kE P).lookup 739).map cdOf = some (.ref 738) := by kernel_rfl
theorem looks0 : (chainsOk viewE && opensWell PySem.Challenge.rw_pb0457_01.row.prog && (frees PySem.Challenge.rw_pb0457_01.row.toRowW && PySem.Challenge.rw_pb0457_01.row.within.isEmpty)) = true := by kernel_rfl
theorem holds0 : PySem.Challenge.rw_pb0457_01.Holds := by
  w_on
  refine holds_law said0 fun said => ?_
  refine holds_open (q := viewE) (loose := looseE) (Xt := fun s => xlAt viewE lvE s && recOk [] s) (XP := XL viewE lvE) (Yf := Hook.obs hookE) (Ya := Hook.val hookE) (YP := Hook.says hookE) (N := 11852) hd_left (Hook.of hookE) (Hook.keeps hookE) (fun s e => xl_of s (Bool.and_eq_true_iff.mp e).1) XL.keeps (by rfl) (by rfl) (by rfl) (fun s e => recFacts_of (Bool.and_eq_true_iff.mp e).2) (by rfl) said looks0 ⟨rfl,rfl,rfl,rfl,rfl,by decide +kernel⟩ ?hw ?hc
  case hw => w_witness2
  case hc =>
    intro w s₀ s₁ mg mb G Y a o pm cd doc dV kV ho hd hcd hD hmg hg args vals as hpre hlay hrd hwl hlo
    have KX : (kE w.params).In s₁.heap := kIn_of Y
    have e739 : Value.ref a = .ref 739 := Option.some.inj ((show mg "law" = some (.ref a) from hmg).symm.trans (mg_of KX (Ground.T G).g (law_in w.params)))
    cases e739
    have e738 : cd = .ref 738 := by
      obtain ⟨ob,hob,hc⟩ := Option.map_eq_some_iff.mp (law_at w.params)
      have := KX _ _ hob
      rw [ho] at this
      cases this
      rw [← hc]
      unfold cdOf
      rw [hd]
      rfl
    refine Ground.open G ?_
    intro T B D TE TW
    clear B D TE TW
    clear hmg
    wrow_args hpre hlay hrd hwl hlo
    refine enter_call ?_
    w_top on
    refine codeAny_mono ?_ (fun _ _ g => GoodW.toG g)
    have K0 := below_caller (Top.heap T)
    w_call any ho hd hcd hD T F
    clear hd
    cases e738
    refine glue plain1 plain2 KX T (by assumption) (by assumption) (by assumption) (by assumption) F rfl (Nat.succ_pos _) (fun h' tk' m' F' => ?_)
    show GoodW _ _ _ _ _ (.ok (.ret (.bool true))) _
    refine goodW_bool F' hg (raisesW_false ?_) ?_
    · wrow_none_raised
    · wrow_post
end Mine
end
theorem PySem.Challenge.cw_pb0457_01_holds : PySem.Challenge.rw_pb0457_01.Holds := by
  exact Mine.holds0
